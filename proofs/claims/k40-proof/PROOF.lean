import PyProof.Rows.All
import Wide.All
import OpenK.AllK
import Wide.FinOn
import HandS.ForMost
import HandS.Walk
import HandS.Deep
import HandS.Conv
import HandS.TupAny
import HandS.TupMul
import HandS.Exc
import HandS.TryOnly
import HandS.ExcOwn
import HandS.WordsExc
import HandS.TryMany
import HandS.Flow
import HandS.Replace
import KE.KDictDisplayH
import HandS.DictComp
import HandS.TupLen
import HandS.WordsDict
import PyProof.StrOps2
import HandS.Small
import HandS.Codes
import HandS.WideBits
import HandS.Strs
import HandS.SetBool
import HandS.Head0
import HandS.Head1
import HandS.Head2
import HandS.HeadEnd
import HandS.HeadHook1
import HandS.HeadHook2
import HandS.EndBits
import PyProof.P3Eq
import HandS.SortInts
import PyProof.StrLawsIn
import HandS.ExcSuper
import HandS.ExcField
import HandS.ForSpec
import KE.KSuper
import KE.KExcSuper
import PyProof.FString
import KE.GoesEnum
import KE.GoesZip
import KE.GoesMore
import KE.LtData
import KE.SortData
import HandS.More
import KE.KDictWalk
import PySem.Challenge.RW_grammarhall_k40_whole_lassos
import KE.OsScanText
set_option Elab.async false
set_option linter.all false
set_option maxRecDepth 100000
set_option maxHeartbeats 4000000
/-! DW: a layer of plain data over HandS. A value is a datum (PyData); tuples and frozen lists are data; a local that holds a list or a dict of its own holds it by value. -/
namespace DW
open PySem PySem.Spec L2

abbrev D := PyData
def Sub (F H : Hp) : Prop := ∀ a o, F a = some o → H a = some o
theorem Sub.refl {F : Hp} : Sub F F := fun _ _ e => e
theorem Sub.trans {F G H : Hp} (a : Sub F G) (b : Sub G H) : Sub F H := fun x o e => b x o (a x o e)
theorem Sub.none {F H : Hp} (s : Sub F H) {a : Addr} (n : H a = none) : F a = none := by
  cases e : F a with
  | none => rfl
  | some o => have q := s a o e; rw [n] at q; cases q
theorem Sub.sqL {K : PySem.W.Frag} {F H : Hp} {a : Addr} {xs : List V} (s : Sub F H) (h : SqL K F a xs) : SqL K H a xs := by
  rcases h with (h | ⟨o, h⟩) | h
  · exact .inl (.inl (s _ _ h))
  · exact .inl (.inr ⟨o, s _ _ h⟩)
  · exact .inr h
theorem Sub.sqT {K : PySem.W.Frag} {F H : Hp} {a : Addr} {xs : List V} (s : Sub F H) (h : SqT K F a xs) : SqT K H a xs := by
  rcases h with (h | ⟨o, h⟩) | h
  · exact .inl (.inl (s _ _ h))
  · exact .inl (.inr ⟨o, s _ _ h⟩)
  · exact .inr h

def keyD : Key → D
  | .inl i => .int i
  | .inr s => .str s
/-- a dict as a datum: its keys with its values -/
def kdK (ks : List Key) (ds : List D) : List (D × D) := (ks.map keyD).zip ds
/-- (marked: tuple keys) -/
def kdT (ks : List (List Key)) (ds : List D) : List (D × D) := (.none, .none) :: (ks.map fun k => PyData.tuple (k.map keyD)).zip ds
mutual
/-- a datum stands at v: its tuples, lists and dicts are in F (the script as it is locked) -/
inductive RepD (K : PySem.W.Frag) (F : Hp) : V → D → Prop where
  | non : RepD K F .non .none
  | bl (b : Bool) : RepD K F (.bl b) (.bool b)
  | int (i : Int) : RepD K F (.int i) (.int i)
  | str (x : Str) : RepD K F (.str x) (.str x)
  | tup {a : Addr} {vs : List V} {ds : List D} : F a = some (.tup vs) → RepL K F vs ds → RepD K F (.ref a) (.tuple ds)
  | lst {a : Addr} {vs : List V} {ds : List D} : F a = some (.lst vs) → RepL K F vs ds → RepD K F (.ref a) (.list ds)
  | dicK {a : Addr} {o : Obj} {ks : List Key} {vs : List V} {ds : List D} : F a = some (.frz o (.dK (ks.zip vs))) → ks.length = vs.length → RepL K F vs ds → RepD K F (.ref a) (.dict (kdK ks ds))
  | dicT {a : Addr} {o : Obj} {ks : List (List Key)} {vs : List V} {ds : List D} : F a = some (.frz o (.dT (ks.zip vs))) → ks.length = vs.length → RepL K F vs ds → RepD K F (.ref a) (.dict (kdT ks ds))
inductive RepL (K : PySem.W.Frag) (F : Hp) : List V → List D → Prop where
  | nil : RepL K F [] []
  | cons {v : V} {d : D} {vs : List V} {ds : List D} : RepD K F v d → RepL K F vs ds → RepL K F (v :: vs) (d :: ds)
end
theorem Sub.rd {F H : Hp} {a : Addr} {u : HO} (s : Sub F H) (h : Rd F a u) : Rd H a u := h.elim (fun h => .inl (s _ _ h)) fun ⟨o, h⟩ => .inr ⟨o, s _ _ h⟩
mutual
theorem RepD.mono {K : PySem.W.Frag} {F F' : Hp} (k : Sub F F') : ∀ {v : V} {d : D}, RepD K F v d → RepD K F' v d
  | _, _, .non => .non
  | _, _, .bl b => .bl b
  | _, _, .int i => .int i
  | _, _, .str x => .str x
  | _, _, .tup e r => .tup (k _ _ e) (RepL.mono k r)
  | _, _, .lst e r => .lst (k _ _ e) (RepL.mono k r)
  | _, _, .dicK e l r => .dicK (k _ _ e) l (RepL.mono k r)
  | _, _, .dicT e l r => .dicT (k _ _ e) l (RepL.mono k r)
theorem RepL.mono {K : PySem.W.Frag} {F F' : Hp} (k : Sub F F') : ∀ {vs : List V} {ds : List D}, RepL K F vs ds → RepL K F' vs ds
  | _, _, .nil => .nil
  | _, _, .cons r t => .cons (RepD.mono k r) (RepL.mono k t)
end
mutual
theorem RepD.dp {K : PySem.W.Frag} {F : Hp} : ∀ {v : V} {d : D}, RepD K F v d → d.canLay0 = true → Dp K F v d
  | _, _, .non, _ => .non
  | _, _, .bl b, _ => .bl b
  | _, _, .int i, _ => .int i
  | _, _, .str x, _ => .str x
  | _, _, .tup e r, h => .tup (.inl (.inl e)) (RepL.dp r (by rw [PyData.canLay0] at h; exact h))
  | _, _, .lst e r, h => .lst (.inl (.inl e)) (RepL.dp r (by rw [PyData.canLay0] at h; exact h))
  | _, _, .dicK e l r, h => by rw [PyData.canLay0] at h; cases h
  | _, _, .dicT e l r, h => by rw [PyData.canLay0] at h; cases h
theorem RepL.dp {K : PySem.W.Frag} {F : Hp} : ∀ {vs : List V} {ds : List D}, RepL K F vs ds → PyData.canLayAll0 ds = true → DpAll K F vs ds
  | _, _, .nil, _ => .nil
  | _, _, .cons r t, h => by
    rw [PyData.canLayAll0, Bool.and_eq_true] at h
    exact .cons (RepD.dp r h.1) (RepL.dp t h.2)
end

theorem RepL.length {K : PySem.W.Frag} {F : Hp} : ∀ {vs : List V} {ds : List D}, RepL K F vs ds → vs.length = ds.length
  | _, _, .nil => rfl
  | _, _, .cons _ t => by rw [List.length_cons, List.length_cons, RepL.length t]
theorem RepL.append {K : PySem.W.Frag} {F : Hp} : ∀ {vs us : List V} {ds es : List D}, RepL K F vs ds → RepL K F us es → RepL K F (vs ++ us) (ds ++ es)
  | _, _, _, _, .nil, s => s
  | _, _, _, _, .cons r t, s => .cons r (RepL.append t s)
theorem RepL.get {K : PySem.W.Frag} {F : Hp} : ∀ {vs : List V} {ds : List D} {i : Nat} {d : D}, RepL K F vs ds → ds[i]? = some d → ∃ v, vs[i]? = some v ∧ RepD K F v d
  | _, _, _, _, .nil, e => by simp at e
  | _, _, 0, _, .cons r _, e => by simp at e; subst e; exact ⟨_, rfl, r⟩
  | _, _, i + 1, _, .cons _ t, e => by
    obtain ⟨u, h1, h2⟩ := RepL.get (i := i) t (by simpa using e)
    exact ⟨u, by simpa using h1, h2⟩
theorem RepL.get' {K : PySem.W.Frag} {F : Hp} : ∀ {vs : List V} {ds : List D} {i : Nat} {v : V}, RepL K F vs ds → vs[i]? = some v → ∃ d, ds[i]? = some d ∧ RepD K F v d
  | _, _, _, _, .nil, e => by simp at e
  | _, _, 0, _, .cons r _, e => by simp at e; subst e; exact ⟨_, rfl, r⟩
  | _, _, i + 1, _, .cons _ t, e => by
    obtain ⟨u, h1, h2⟩ := RepL.get' (i := i) t (by simpa using e)
    exact ⟨u, by simpa using h1, h2⟩
theorem RepL.take {K : PySem.W.Frag} {F : Hp} : ∀ {vs : List V} {ds : List D} (n : Nat), RepL K F vs ds → RepL K F (vs.take n) (ds.take n)
  | _, _, 0, _ => .nil
  | _, _, _ + 1, .nil => .nil
  | _, _, n + 1, .cons r t => .cons r (RepL.take n t)
theorem RepL.drop {K : PySem.W.Frag} {F : Hp} : ∀ {vs : List V} {ds : List D} (n : Nat), RepL K F vs ds → RepL K F (vs.drop n) (ds.drop n)
  | _, _, 0, r => r
  | _, _, _ + 1, .nil => .nil
  | _, _, n + 1, .cons _ t => RepL.drop n t
theorem RepL.set {K : PySem.W.Frag} {F : Hp} {v : V} {d : D} (r : RepD K F v d) : ∀ {vs : List V} {ds : List D} (i : Nat), RepL K F vs ds → RepL K F (vs.set i v) (ds.set i d)
  | _, _, _, .nil => .nil
  | _, _, 0, .cons _ t => .cons r t
  | _, _, i + 1, .cons q t => .cons q (RepL.set r i t)
theorem RepL.dropLast {K : PySem.W.Frag} {F : Hp} {vs : List V} {ds : List D} (r : RepL K F vs ds) : RepL K F vs.dropLast ds.dropLast := by
  rw [List.dropLast_eq_take, List.dropLast_eq_take, RepL.length r]
  exact RepL.take _ r
theorem RepL.eraseIdx {K : PySem.W.Frag} {F : Hp} : ∀ {vs : List V} {ds : List D} (i : Nat), RepL K F vs ds → RepL K F (vs.eraseIdx i) (ds.eraseIdx i)
  | _, _, _, .nil => .nil
  | _, _, 0, .cons _ t => t
  | _, _, i + 1, .cons q t => .cons q (RepL.eraseIdx i t)
theorem RepL.ints {K : PySem.W.Frag} {F : Hp} : ∀ (ns : List Int), RepL K F (ns.map V.int) (ns.map PyData.int)
  | [] => .nil
  | n :: r => .cons (.int n) (RepL.ints r)

/-- the law's drawer: where it stands, where its copy of the script stands, the script -/
structure Dw where
  a : Addr
  s : Addr
  ns : List Int
def Big (n : Int) : Prop := n.natAbs < 2 ^ 1048576
def Drawer (H : Hp) (d : Dw) : Prop :=
  ∃ (i : Nat) (r c : Int), H d.a = some (.lst [.ref d.s, .int i, .int r, .int c]) ∧ 0 ≤ r ∧ Big r ∧ 0 ≤ c ∧ c < 2147483647
structure DwOk (F H : Hp) (d : Dw) : Prop where
  free : F d.a = none
  at_ : Drawer H d
  copy : F d.s = some (.lst (d.ns.map V.int))
  few : d.ns.length ≤ 63
  big : ∀ n ∈ d.ns, Big n

/-- from (F, H) on: what stood stands (the drawer may turn), new things are new -/
structure Ext (w : Option Dw) (F H F' H' : Hp) : Prop where
  fs : Sub F F'
  le : Sub F' H'
  hs : ∀ a o, H a = some o → (∀ d, w = some d → d.a ≠ a) → H' a = some o
  new : ∀ a, F' a ≠ none → F a ≠ none ∨ H a = none ∨ ∃ vs, F' a = some (.tup vs)
  dr : ∀ d, w = some d → DwOk F' H' d
section
variable {w : Option Dw} {F F1 F2 H H1 H2 : Hp}
theorem Ext.refl (le : Sub F H) (dr : ∀ d, w = some d → DwOk F H d) : Ext w F H F H := ⟨Sub.refl, le, fun _ _ e _ => e, fun _ e => .inl e, dr⟩
theorem Ext.stay (x : Ext w F H F1 H1) : Ext w F1 H1 F1 H1 := Ext.refl x.le x.dr
theorem Ext.there (x : Ext w F H F1 H1) {a : Addr} {o : HO} (e : H a = some o) : ∃ u, H1 a = some u := by
  by_cases q : ∃ d, w = some d ∧ d.a = a
  · obtain ⟨d, e1, e2⟩ := q
    obtain ⟨i, r, c, h, _⟩ := (x.dr d e1).at_
    rw [e2] at h
    exact ⟨_, h⟩
  · exact ⟨o, x.hs a o e fun d e1 e2 => q ⟨d, e1, e2⟩⟩
theorem Ext.none (x : Ext w F H F1 H1) {a : Addr} (e : H1 a = none) : H a = none := by
  cases q : H a with
  | none => rfl
  | some u => obtain ⟨w, h⟩ := x.there q; rw [e] at h; cases h
theorem Ext.trans (x : Ext w F H F1 H1) (y : Ext w F1 H1 F2 H2) : Ext w F H F2 H2 where
  fs := x.fs.trans y.fs
  le := y.le
  hs := fun a o e d => y.hs a o (x.hs a o e d) d
  new := fun a e => by
    rcases y.new a e with q | q | q
    · rcases x.new a q with r | r | ⟨vs, r⟩
      · exact .inl r
      · exact .inr (.inl r)
      · exact .inr (.inr ⟨vs, y.fs _ _ r⟩)
    · exact .inr (.inl (x.none q))
    · exact .inr (.inr q)
  dr := y.dr
/-- w's drawer is not at a -/
theorem Ext.off (x : Ext w F H F1 H1) {a : Addr} (e : F1 a ≠ Option.none) : ∀ d, w = some d → d.a ≠ a := fun d e1 e2 => by
  have := (x.dr d e1).free
  rw [e2] at this
  exact e this
theorem upd_grow {p : Addr} {u : HO} (hp : H p = Option.none) : Sub H (upd H p u) := fun b u' e => by
  rw [upd_ne (fun z => by subst z; rw [hp] at e; cases e)]; exact e
theorem Drawer.grow {d : Dw} (x : Drawer H d) (g : Sub H H1) : Drawer H1 d := let ⟨i, r, c, e, q⟩ := x; ⟨i, r, c, g _ _ e, q⟩
/-- a new frozen thing -/
theorem Ext.laid (x : Ext w F H F H) {p : Addr} {u : HO} (hp : H p = Option.none) : Ext w F H (upd F p u) (upd H p u) where
  fs := upd_grow (x.le.none hp)
  le := fun a o e => by
    by_cases ha : a = p
    · subst ha; rw [upd_same] at e ⊢; exact e
    · rw [upd_ne ha] at e ⊢; exact x.le a o e
  hs := fun a o e _ => upd_grow hp a o e
  new := fun a e => by
    by_cases ha : a = p
    · subst ha; exact .inr (.inl hp)
    · rw [upd_ne ha] at e; exact .inl e
  dr := fun d e => by
    have o := x.dr d e
    obtain ⟨i, r, c, h, q⟩ := o.at_
    have hn : d.a ≠ p := fun z => by rw [z, hp] at h; cases h
    exact ⟨by rw [upd_ne hn]; exact o.free, o.at_.grow (upd_grow hp), upd_grow (x.le.none hp) _ _ o.copy, o.few, o.big⟩
/-- a new thing of one's own: not frozen -/
theorem Ext.own (x : Ext w F H F H) {p : Addr} {u : HO} (hp : H p = Option.none) : Ext w F H F (upd H p u) where
  fs := Sub.refl
  le := x.le.trans (upd_grow hp)
  hs := fun a o e _ => upd_grow hp a o e
  new := fun a e => .inl e
  dr := fun d e => let o := x.dr d e; ⟨o.free, o.at_.grow (upd_grow hp), o.copy, o.few, o.big⟩
/-- a thing of one's own, new since (F, H), is frozen -/
theorem Ext.freeze (x : Ext w F H F1 H1) {p : Addr} {u : HO} (h0 : H p = Option.none) (h : H1 p = some u) (n : F1 p = Option.none) (nd : ∀ d, w = some d → d.a ≠ p) : Ext w F H (upd F1 p u) H1 where
  fs := x.fs.trans (upd_grow n)
  le := fun a o e => by
    by_cases ha : a = p
    · subst ha; rw [upd_same] at e; rw [← e]; exact h
    · rw [upd_ne ha] at e; exact x.le a o e
  hs := x.hs
  new := fun a e => by
    by_cases ha : a = p
    · subst ha; exact .inr (.inl h0)
    · rw [upd_ne ha] at e ⊢; exact x.new a e
  dr := fun d e => by
    have o := x.dr d e
    exact ⟨by rw [upd_ne (nd d e)]; exact o.free, o.at_, upd_grow n _ _ o.copy, o.few, o.big⟩
end

/-! ### results, slots -/
/-- what an expression gives: a datum; a new list (dict); a list (dict) of a local; the drawer -/
inductive R where
  | im (d : D) | ol (xs : List D) | bl (xs : List D) | oK (kvs : List (Key × D)) | bK (kvs : List (Key × D)) | oT (kvs : List (List Key × D)) | bT (kvs : List (List Key × D)) | drw
inductive SV where
  | im (d : D) | ol (xs : List D) | oK (kvs : List (Key × D)) | oT (kvs : List (List Key × D)) | drw

inductive RepKV {κ : Type} (K : PySem.W.Frag) (F : Hp) : List (κ × V) → List (κ × D) → Prop where
  | nil : RepKV K F [] []
  | cons {k : κ} {v : V} {d : D} {vs : List (κ × V)} {ds : List (κ × D)} : RepD K F v d → RepKV K F vs ds → RepKV K F ((k, v) :: vs) ((k, d) :: ds)
theorem RepKV.mono {κ : Type} {K : PySem.W.Frag} {F F' : Hp} (k : Sub F F') : ∀ {vs : List (κ × V)} {ds : List (κ × D)}, RepKV K F vs ds → RepKV K F' vs ds
  | _, _, .nil => .nil
  | _, _, .cons r t => .cons (RepD.mono k r) (RepKV.mono k t)

def SV.owned : SV → Bool
  | .ol _ => true
  | .oK _ => true
  | .oT _ => true
  | _ => false
def SV.read : SV → R
  | .im d => .im d
  | .ol xs => .bl xs
  | .oK xs => .bK xs
  | .oT xs => .bT xs
  | .drw => .drw

def RepSV (K : PySem.W.Frag) (w : Option Dw) (F H : Hp) (v : V) : SV → Prop
  | .im d => RepD K F v d
  | .ol xs => ∃ p vs, v = .ref p ∧ H p = some (.lst vs) ∧ F p = none ∧ (∀ d, w = some d → d.a ≠ p) ∧ RepL K F vs xs
  | .oK kvs => ∃ p vs, v = .ref p ∧ H p = some (.dK vs) ∧ F p = none ∧ (∀ d, w = some d → d.a ≠ p) ∧ RepKV K F vs kvs
  | .oT kvs => ∃ p vs, v = .ref p ∧ H p = some (.dT vs) ∧ F p = none ∧ (∀ d, w = some d → d.a ≠ p) ∧ RepKV K F vs kvs
  | .drw => ∃ d, w = some d ∧ v = .ref d.a

abbrev DEnv := List (Option SV)
/-- the ground: the drawer, what stood at the def's entry -/
structure Gd where
  w : Option Dw
  F0 : Hp
  H0 : Hp

structure RepS (K : PySem.W.Frag) (G : Gd) (F H : Hp) (σ : L2.St) (δ : DEnv) : Prop where
  ext : Ext G.w G.F0 G.H0 F H
  len : σ.length = δ.length
  slot : ∀ (i : Nat) s, δ[i]? = some (some s) → ∃ v, σ[i]? = some (some v) ∧ RepSV K G.w F H v s
  fresh : ∀ (i : Nat) s p, δ[i]? = some (some s) → s.owned = true → σ[i]? = some (some (.ref p)) → G.H0 p = none
  apart : ∀ (i j : Nat) s t p, i ≠ j → δ[i]? = some (some s) → δ[j]? = some (some t) → s.owned = true → t.owned = true → σ[i]? = some (some (.ref p)) → σ[j]? ≠ some (some (.ref p))

def RepR (K : PySem.W.Frag) (w : Option Dw) (H F' H' : Hp) (v : V) : R → Prop
  | .im d => RepD K F' v d
  | .ol xs => ∃ p vs, v = .ref p ∧ H p = none ∧ H' p = some (.lst vs) ∧ F' p = none ∧ (∀ d, w = some d → d.a ≠ p) ∧ RepL K F' vs xs
  | .bl xs => ∃ p vs, v = .ref p ∧ H' p = some (.lst vs) ∧ F' p = none ∧ (∀ d, w = some d → d.a ≠ p) ∧ RepL K F' vs xs
  | .oK kvs => ∃ p vs, v = .ref p ∧ H p = none ∧ H' p = some (.dK vs) ∧ F' p = none ∧ (∀ d, w = some d → d.a ≠ p) ∧ RepKV K F' vs kvs
  | .bK kvs => ∃ p vs, v = .ref p ∧ H' p = some (.dK vs) ∧ F' p = none ∧ (∀ d, w = some d → d.a ≠ p) ∧ RepKV K F' vs kvs
  | .oT kvs => ∃ p vs, v = .ref p ∧ H p = none ∧ H' p = some (.dT vs) ∧ F' p = none ∧ (∀ d, w = some d → d.a ≠ p) ∧ RepKV K F' vs kvs
  | .bT kvs => ∃ p vs, v = .ref p ∧ H' p = some (.dT vs) ∧ F' p = none ∧ (∀ d, w = some d → d.a ≠ p) ∧ RepKV K F' vs kvs
  | .drw => ∃ d, w = some d ∧ v = .ref d.a

section
variable {K : PySem.W.Frag} {w : Option Dw} {G : Gd} {F F1 F2 H H1 H2 : Hp} {σ : L2.St} {δ : DEnv}
theorem Ext.keepN (x : Ext w F H F1 H1) {p : Addr} {u : HO} (e : H p = some u) (n : F p = Option.none) (nd : ∀ d, w = some d → d.a ≠ p) (nt : ∀ vs, u ≠ .tup vs := by intro _ z; cases z) : H1 p = some u ∧ F1 p = Option.none := by
  refine ⟨x.hs p u e nd, ?_⟩
  cases q : F1 p with
  | none => rfl
  | some w =>
    rcases x.new p (by rw [q]; intro z; cases z) with r | r | ⟨vs, r⟩
    · exact absurd n r
    · rw [r] at e; cases e
    · have h1 := x.le p _ r
      rw [x.hs p u e nd] at h1
      exact absurd (Option.some.inj h1) (nt vs)
theorem RepSV.ext (x : Ext w F H F1 H1) {v : V} {s : SV} (r : RepSV K w F H v s) : RepSV K w F1 H1 v s := by
  cases s with
  | im d => exact RepD.mono x.fs r
  | ol xs => obtain ⟨p, vs, e, h, n, nd, l⟩ := r; obtain ⟨h', n'⟩ := x.keepN h n nd; exact ⟨p, vs, e, h', n', nd, RepL.mono x.fs l⟩
  | oK xs => obtain ⟨p, vs, e, h, n, nd, l⟩ := r; obtain ⟨h', n'⟩ := x.keepN h n nd; exact ⟨p, vs, e, h', n', nd, l.mono x.fs⟩
  | oT xs => obtain ⟨p, vs, e, h, n, nd, l⟩ := r; obtain ⟨h', n'⟩ := x.keepN h n nd; exact ⟨p, vs, e, h', n', nd, l.mono x.fs⟩
  | drw => exact r
theorem RepS.to (s : RepS K G F H σ δ) (x : Ext G.w F H F1 H1) : RepS K G F1 H1 σ δ :=
  ⟨s.ext.trans x, s.len, fun i t e => let ⟨v, e1, r⟩ := s.slot i t e; ⟨v, e1, r.ext x⟩, s.fresh, s.apart⟩
theorem RepR.to {v : V} {r : R} (q : RepR K w H F1 H1 v r) (x : Ext w F1 H1 F2 H2) : RepR K w H F2 H2 v r := by
  cases r with
  | im d => exact RepD.mono x.fs q
  | ol xs => obtain ⟨p, vs, e, h0, h, n, nd, l⟩ := q; obtain ⟨h', n'⟩ := x.keepN h n nd; exact ⟨p, vs, e, h0, h', n', nd, RepL.mono x.fs l⟩
  | bl xs => obtain ⟨p, vs, e, h, n, nd, l⟩ := q; obtain ⟨h', n'⟩ := x.keepN h n nd; exact ⟨p, vs, e, h', n', nd, RepL.mono x.fs l⟩
  | oK xs => obtain ⟨p, vs, e, h0, h, n, nd, l⟩ := q; obtain ⟨h', n'⟩ := x.keepN h n nd; exact ⟨p, vs, e, h0, h', n', nd, l.mono x.fs⟩
  | bK xs => obtain ⟨p, vs, e, h, n, nd, l⟩ := q; obtain ⟨h', n'⟩ := x.keepN h n nd; exact ⟨p, vs, e, h', n', nd, l.mono x.fs⟩
  | oT xs => obtain ⟨p, vs, e, h0, h, n, nd, l⟩ := q; obtain ⟨h', n'⟩ := x.keepN h n nd; exact ⟨p, vs, e, h0, h', n', nd, l.mono x.fs⟩
  | bT xs => obtain ⟨p, vs, e, h, n, nd, l⟩ := q; obtain ⟨h', n'⟩ := x.keepN h n nd; exact ⟨p, vs, e, h', n', nd, l.mono x.fs⟩
  | drw => exact q
theorem RepR.back {v : V} {r : R} (q : RepR K w H1 F2 H2 v r) (x : Ext w F H F1 H1) : RepR K w H F2 H2 v r := by
  cases r with
  | im d => exact q
  | ol xs => obtain ⟨p, vs, e, h0, h⟩ := q; exact ⟨p, vs, e, x.none h0, h⟩
  | bl xs => exact q
  | oK xs => obtain ⟨p, vs, e, h0, h⟩ := q; exact ⟨p, vs, e, x.none h0, h⟩
  | bK xs => exact q
  | oT xs => obtain ⟨p, vs, e, h0, h⟩ := q; exact ⟨p, vs, e, x.none h0, h⟩
  | bT xs => exact q
  | drw => exact q
end

/-! ### data of results -/
/-- the datum, a new list being frozen -/
def R.dat : R → Option D
  | .im d => some d
  | .ol xs => some (.list xs)
  | _ => none
/-- the items of a list that is read -/
def R.lst : R → Option (List D)
  | .im (.list xs) => some xs
  | .ol xs => some xs
  | .bl xs => some xs
  | _ => none
def R.tup : R → Option (List D)
  | .im (.tuple xs) => some xs
  | _ => none
section
variable {K : PySem.W.Frag} {w : Option Dw} {F F1 F2 H H1 H2 : Hp} {v : V} {r : R}
theorem RepR.freeze (x : Ext w F H F1 H1) (q : RepR K w H F1 H1 v r) {d : D} (e : r.dat = some d) : ∃ F2, Ext w F H F2 H1 ∧ Sub F1 F2 ∧ RepD K F2 v d := by
  cases r with
  | im d' =>
    have z : d' = d := Option.some.inj e
    subst z
    exact ⟨F1, x, Sub.refl, q⟩
  | ol xs =>
    have z : PyData.list xs = d := Option.some.inj e
    subst z
    obtain ⟨p, vs, rfl, h0, h, n, nd, l⟩ := q
    exact ⟨_, x.freeze h0 h n nd, upd_grow n, .lst upd_same (RepL.mono (upd_grow n) l)⟩
  | bl xs => cases e
  | oK xs => cases e
  | bK xs => cases e
  | oT xs => cases e
  | bT xs => cases e
  | drw => cases e
/-- the datum as it stands, a list of a local too -/
def R.datA : R → Option D
  | .im d => some d
  | .ol xs => some (.list xs)
  | .bl xs => some (.list xs)
  | _ => none
theorem RepR.dp (le : Sub F1 H1) (q : RepR K w H F1 H1 v r) {d : D} (e : r.datA = some d) (hc : d.canLay0 = true) : Dp K H1 v d := by
  cases r with
  | im d' =>
    have z : d' = d := Option.some.inj e
    subst z
    exact (RepD.mono le q).dp hc
  | ol xs =>
    have z : PyData.list xs = d := Option.some.inj e
    subst z
    obtain ⟨p, vs, rfl, h0, h, n, nd, l⟩ := q
    exact .lst (SqL.of h) ((RepL.mono le l).dp (by rw [PyData.canLay0] at hc; exact hc))
  | bl xs =>
    have z : PyData.list xs = d := Option.some.inj e
    subst z
    obtain ⟨p, vs, rfl, h, n, nd, l⟩ := q
    exact .lst (SqL.of h) ((RepL.mono le l).dp (by rw [PyData.canLay0] at hc; exact hc))
  | oK xs => cases e
  | bK xs => cases e
  | oT xs => cases e
  | bT xs => cases e
  | drw => cases e
theorem RepR.list (le : Sub F1 H1) (q : RepR K w H F1 H1 v r) {xs : List D} (e : r.lst = some xs) : ∃ p vs, v = .ref p ∧ SqL K H1 p vs ∧ RepL K F1 vs xs := by
  cases r with
  | im d' =>
    cases d' with
    | list ys =>
      have z : ys = xs := Option.some.inj e
      subst z
      cases q with
      | lst h l => exact ⟨_, _, rfl, .inl (.inl (le _ _ h)), l⟩
    | _ => cases e
  | ol ys =>
    have z : ys = xs := Option.some.inj e
    subst z
    obtain ⟨p, vs, rfl, h0, h, n, nd, l⟩ := q
    exact ⟨p, vs, rfl, SqL.of h, l⟩
  | bl ys =>
    have z : ys = xs := Option.some.inj e
    subst z
    obtain ⟨p, vs, rfl, h, n, nd, l⟩ := q
    exact ⟨p, vs, rfl, SqL.of h, l⟩
  | oK xs => cases e
  | bK xs => cases e
  | oT xs => cases e
  | bT xs => cases e
  | drw => cases e
theorem RepR.tuple (le : Sub F1 H1) (q : RepR K w H F1 H1 v r) {xs : List D} (e : r.tup = some xs) : ∃ p vs, v = .ref p ∧ F1 p = some (.tup vs) ∧ RepL K F1 vs xs := by
  cases r with
  | im d' =>
    cases d' with
    | tuple ys =>
      have z : ys = xs := Option.some.inj e
      subst z
      cases q with
      | tup h l => exact ⟨_, _, rfl, h, l⟩
    | _ => cases e
  | _ => cases e
end
end DW
set_option Elab.async false
set_option linter.all false
set_option maxRecDepth 100000
set_option maxHeartbeats 4000000
namespace DW
open PySem PySem.Spec L2

/-! ### judgements on expressions -/
/-- an exception: its class, its fields -/
structure DX where
  C : Addr
  fs : List (Str × D)
def RepX (K : PySem.W.Frag) (F' H' : Hp) (x : DX) (cls : Value) (d : Option Addr) : Prop :=
  cls = .ref x.C ∧ (x.fs ≠ [] → ∃ dd vs, d = some dd ∧ H' dd = some (.xd vs) ∧ Paired (fun (p : Str × V) (q : Str × D) => p.1 = q.1 ∧ RepD K F' p.2 q.2) vs x.fs)
/-- an expression's data reading -/
abbrev WE' := DEnv → (R → Prop) → (DX → Prop) → Prop
abbrev WT := DEnv → (Bool → Prop) → (DX → Prop) → Prop
abbrev WA := DEnv → (List R → Prop) → (DX → Prop) → Prop

def xok (K : PySem.W.Frag) (w : Option Dw) (W : WX) (F H : Hp) (σ : L2.St) (PX : DX → Prop) : Prop :=
  ∀ x F' H' cls d, Ext w F H F' H' → RepX K F' H' x cls d → PX x → W cls d σ H'
def dT (K : PySem.W.Frag) (G : Gd) (W : WX) (we : WE') : TE := fun σ H Q => ∃ F δ P PX, RepS K G F H σ δ ∧ we δ P PX ∧
  (∀ v F' H' r, Ext G.w F H F' H' → RepR K G.w H F' H' v r → P r → Q v H') ∧ xok K G.w W F H σ PX
def dTT (K : PySem.W.Frag) (G : Gd) (W : WX) (wt : WT) : TT := fun σ H Q => ∃ F δ P PX, RepS K G F H σ δ ∧ wt δ P PX ∧
  (∀ b F' H', Ext G.w F H F' H' → P b → Q b H') ∧ xok K G.w W F H σ PX
/-- an argument list: each result is as it was when it was made, new lists are not frozen -/
inductive RepRs (K : PySem.W.Frag) (w : Option Dw) (H F' H' : Hp) : List V → List R → Prop where
  | nil : RepRs K w H F' H' [] []
  | cons {v r vs rs} : RepR K w H F' H' v r → RepRs K w H F' H' vs rs → RepRs K w H F' H' (v :: vs) (r :: rs)
def dTA (K : PySem.W.Frag) (G : Gd) (W : WX) (wa : WA) : TA := fun σ H Q => ∃ F δ P PX, RepS K G F H σ δ ∧ wa δ P PX ∧
  (∀ vs F' H' rs, Ext G.w F H F' H' → RepRs K G.w H F' H' vs rs → P rs → Q vs H') ∧ xok K G.w W F H σ PX

abbrev DE (X : Cx) (G : Gd) (W : WX) (e : Expr) (we : WE') : Prop := PE X e (dT X.K G W we)
abbrev DT (X : Cx) (G : Gd) (W : WX) (e : Expr) (wt : WT) : Prop := PT X e (dTT X.K G W wt)
abbrev DA (X : Cx) (G : Gd) (W : WX) (es : List Expr) (wa : WA) : Prop := PA X es (dTA X.K G W wa)

theorem PE.imp {X : Cx} {e : Expr} {t t' : TE} (h : PE X e t) (i : ∀ σ H Q, t' σ H Q → t σ H Q) : PE X e t' := ⟨fun pins s σ H Q I q => h.run pins s σ H Q I (i σ H Q q)⟩
theorem PT.imp {X : Cx} {e : Expr} {t t' : TT} (h : PT X e t) (i : ∀ σ H Q, t' σ H Q → t σ H Q) : PT X e t' := ⟨fun pins s σ H Q I q => h.run pins s σ H Q I (i σ H Q q)⟩
theorem PA.imp {X : Cx} {e : List Expr} {t t' : TA} (h : PA X e t) (i : ∀ σ H Q, t' σ H Q → t σ H Q) : PA X e t' := ⟨fun pos pins s σ H Q I q => h.run pos pins s σ H Q I (i σ H Q q)⟩

section
variable {K : PySem.W.Frag} {w : Option Dw} {G : Gd} {W : WX} {F F1 F2 H H1 H2 : Hp} {σ : L2.St} {δ : DEnv}
theorem xok.to {PX : DX → Prop} (x : xok K w W F H σ PX) (y : Ext w F H F1 H1) : xok K w W F1 H1 σ PX := fun e F' H' cls d z r p => x e F' H' cls d (y.trans z) r p
theorem RepRs.to {vs rs} (q : RepRs K w H F1 H1 vs rs) (x : Ext w F1 H1 F2 H2) : RepRs K w H F2 H2 vs rs := by
  induction q with
  | nil => exact .nil
  | cons r _ ih => exact .cons (r.to x) ih
theorem RepRs.back {vs rs} (q : RepRs K w H1 F2 H2 vs rs) (x : Ext w F H F1 H1) : RepRs K w H F2 H2 vs rs := by
  induction q with
  | nil => exact .nil
  | cons r _ ih => exact .cons (r.back x) ih
/-- the next expression's reading from where the first one ended -/
theorem dT.next {we : WE'} {P : R → Prop} {PX : DX → Prop} {Q : VK} (S : RepS K G F H σ δ) (x : Ext G.w F H F1 H1) (xk : xok K G.w W F H σ PX) (h : we δ P PX)
    (k : ∀ v F' H' r, Ext G.w F1 H1 F' H' → RepR K G.w H1 F' H' v r → P r → Q v H') : dT K G W we σ H1 Q :=
  ⟨F1, δ, P, PX, S.to x, h, k, xk.to x⟩
theorem dTA.next {we : WA} {P : List R → Prop} {PX : DX → Prop} {Q : List V → Hp → Prop} (S : RepS K G F H σ δ) (x : Ext G.w F H F1 H1) (xk : xok K G.w W F H σ PX) (h : we δ P PX)
    (k : ∀ v F' H' r, Ext G.w F1 H1 F' H' → RepRs K G.w H1 F' H' v r → P r → Q v H') : dTA K G W we σ H1 Q :=
  ⟨F1, δ, P, PX, S.to x, h, k, xk.to x⟩
end

/-! ### names, constants -/
def wV (i : Nat) : WE' := fun δ P _ => ∃ s, δ[i]? = some (some s) ∧ P s.read
def wC (d : D) : WE' := fun _ P _ => P (.im d)
section
variable {X : Cx} {G : Gd} {W : WX} {e a b : Expr} {wa wb : WE'} {pos : Pos}
theorem RepSV.read {K : PySem.W.Frag} {w : Option Dw} {F H : Hp} {v : V} {s : SV} (r : RepSV K w F H v s) : RepR K w H F H v s.read := by
  cases s with
  | im d => exact r
  | ol xs => obtain ⟨p, vs, e, q⟩ := r; exact ⟨p, vs, e, q⟩
  | oK xs => obtain ⟨p, vs, e, q⟩ := r; exact ⟨p, vs, e, q⟩
  | oT xs => obtain ⟨p, vs, e, q⟩ := r; exact ⟨p, vs, e, q⟩
  | drw => exact r
theorem de_var {i : Nat} (h : PE X e (tVar i)) : DE X G W e (wV i) := PE.imp h fun σ H Q ⟨F, δ, P, PX, S, ⟨s, e1, p⟩, k, xk⟩ => by
  obtain ⟨v, e2, r⟩ := S.slot i s e1
  exact ⟨v, e2, k v F H _ S.ext.stay r.read p⟩
theorem de_con {v : V} {d : D} (h : PE X e (tC v)) (r : ∀ F, RepD X.K F v d) : DE X G W e (wC d) := PE.imp h fun σ H Q ⟨F, δ, P, PX, S, p, k, xk⟩ => k v F H (.im d) S.ext.stay (r F) p
theorem de_int {i j} : DE X G W (.Constant (.int i) j pos) (wC (.int i)) := de_con pe_int fun _ => .int i
theorem de_bl {b j} : DE X G W (.Constant (.bool b) j pos) (wC (.bool b)) := de_con pe_bl fun _ => .bl b
theorem de_non {j} : DE X G W (.Constant .none j pos) (wC .none) := de_con pe_non fun _ => .non
theorem de_str {x j} : DE X G W (.Constant (.str x) j pos) (wC (.str x)) := de_con pe_str fun _ => .str x

/-! ### operators -/
/-- an operation on results -/
abbrev KO := R → R → (R → Prop) → Prop
def wOp (k : KO) (wa wb : WE') : WE' := fun δ P PX => wa δ (fun r1 => wb δ (fun r2 => k r1 r2 P) PX) PX
/-- r is good enough for k -/
def OpD (K : PySem.W.Frag) (r : R2) (k : KO) : Prop := ∀ (w : Option Dw) (H0 F H : Hp) (x y : V) (r1 r2 : R) (P : R → Prop) (Q : VK), Ext w F H F H → RepR K w H0 F H x r1 → RepR K w H0 F H y r2 → k r1 r2 P →
  (∀ v F' H' r, Ext w F H F' H' → RepR K w H F' H' v r → P r → Q v H') → r x y H Q
theorem tOp_of {K : PySem.W.Frag} {r : R2} {k : KO} (hk : OpD K r k) {σ : L2.St} {H : Hp} {Q : VK} (h : dT K G W (wOp k wa wb) σ H Q) : tOp r (dT K G W wa) (dT K G W wb) σ H Q := by
  obtain ⟨F, δ, P, PX, S, p, q, xk⟩ := h
  refine ⟨F, δ, _, PX, S, p, fun x F1 H1 r1 x1 q1 p1 => ?_, xk⟩
  refine dT.next S x1 xk p1 fun y F2 H2 r2 x2 q2 p2 => ?_
  refine hk G.w H F2 H2 x y r1 r2 P Q x2.stay (q1.to x2) (q2.back x1) p2 fun v F' H' r x3 q3 p3 => q v F' H' r ((x1.trans x2).trans x3) (q3.back (x1.trans x2)) p3
theorem de_op {op : Operator} {r : R2} {k : KO} (ho : OpR X (binaryOp op) r) (hk : OpD X.K r k) (ha : DE X G W a wa) (hb : DE X G W b wb) : DE X G W (.BinOp a op b pos) (wOp k wa wb) :=
  PE.imp (pe_op ho ha hb) fun _ _ _ h => tOp_of hk h
theorem de_cmp {op : CmpOp} {r : R2} {k : KO} (ho : OpR X (compareOp op) r) (hk : OpD X.K r k) (ha : DE X G W a wa) (hb : DE X G W b wb) (hm : behindInMarks op b = false) : DE X G W (.Compare a [op] [b] pos) (wOp k wa wb) :=
  PE.imp (pe_cmpR ho ha hb hm) fun _ _ _ h => tOp_of hk h
/-- a test of a bool result -/
def wB (we : WE') : WT := fun δ P PX => we δ (fun r => ∃ b, r = .im (.bool b) ∧ P b) PX
theorem tB_of {K : PySem.W.Frag} {we : WE'} {σ : L2.St} {H : Hp} {Q : Bool → Hp → Prop} (h : dTT K G W (wB we) σ H Q) : dT K G W we σ H fun x H1 => ∃ c, x = .bl c ∧ Q c H1 := by
  obtain ⟨F, δ, P, PX, S, p, q, xk⟩ := h
  refine ⟨F, δ, _, PX, S, p, fun x F1 H1 r1 x1 q1 ⟨b, e, pb⟩ => ?_, xk⟩
  subst e
  cases q1
  exact ⟨b, rfl, q b F1 H1 x1 pb⟩
theorem dt_cmp {op : CmpOp} {r : R2} {k : KO} (ho : OpR X (compareOp op) r) (hk : OpD X.K r k) (ha : DE X G W a wa) (hb : DE X G W b wb) (hm : behindInMarks op b = false) : DT X G W (.Compare a [op] [b] pos) (wB (wOp k wa wb)) :=
  PT.imp (pt_cmpR ho ha hb hm) fun σ H Q h => by
    obtain ⟨F, δ, P, PX, S, p, q, xk⟩ := tB_of h
    exact tOp_of hk ⟨F, δ, P, PX, S, p, q, xk⟩
theorem dt_val {we : WE'} (h : DE X G W e we) (he : ∀ whole, isTrue e X.env whole = (do let v ← whole; standAt e.pos; holding [v] (truthy v)) := by intro _; rfl) : DT X G W e (wB we) :=
  PT.imp (pt_val h he) fun σ H Q h => tB_of h

/-! ### the operations -/
def kI (f : Int → Int → D) : KO := fun r1 r2 P => ∃ i j, r1 = .im (.int i) ∧ r2 = .im (.int j) ∧ P (.im (f i j))
theorem opd_I {K : PySem.W.Frag} {g : Int → Int → V} {f : Int → Int → D} (h : ∀ F i j, RepD K F (g i j) (f i j)) : OpD K (rI0 g) (kI f) := by
  intro w H0 F H x y r1 r2 P Q x0 q1 q2 ⟨i, j, e1, e2, p⟩ k
  subst e1; subst e2
  cases q1; cases q2
  exact ⟨i, j, rfl, rfl, k _ F H (.im (f i j)) x0 (h F i j) p⟩
def kIC (C : Int → Int → Prop) (f : Int → Int → D) : KO := fun r1 r2 P => ∃ i j, r1 = .im (.int i) ∧ r2 = .im (.int j) ∧ C i j ∧ P (.im (f i j))
theorem opd_IC {K : PySem.W.Frag} {C : Int → Int → Prop} {g : Int → Int → V} {f : Int → Int → D} (h : ∀ F i j, RepD K F (g i j) (f i j)) : OpD K (rI C g) (kIC C f) := by
  intro w H0 F H x y r1 r2 P Q x0 q1 q2 ⟨i, j, e1, e2, c, p⟩ k
  subst e1; subst e2
  cases q1; cases q2
  exact ⟨i, j, rfl, rfl, c, k _ F H (.im (f i j)) x0 (h F i j) p⟩
theorem OpD.or {K : PySem.W.Frag} {r r' : R2} {k k' : KO} (h : OpD K r k) (h' : OpD K r' k') : OpD K (fun x y H Q => r x y H Q ∨ r' x y H Q) (fun a b P => k a b P ∨ k' a b P) := by
  intro w H0 F H x y r1 r2 P Q x0 q1 q2 hk c
  rcases hk with hk | hk
  · exact .inl (h w H0 F H x y r1 r2 P Q x0 q1 q2 hk c)
  · exact .inr (h' w H0 F H x y r1 r2 P Q x0 q1 q2 hk c)
theorem OpD.imp {K : PySem.W.Frag} {r : R2} {k k' : KO} (h : OpD K r k) (i : ∀ a b P, k' a b P → k a b P) : OpD K r k' := fun w H0 F H x y r1 r2 P Q x0 q1 q2 hk c => h w H0 F H x y r1 r2 P Q x0 q1 q2 (i _ _ _ hk) c

def kLt : KO := kI fun i j => .bool (decide (i < j))
def kLe : KO := kI fun i j => .bool (decide (i ≤ j))
def kGt : KO := kI fun i j => .bool (decide (j < i))
def kGe : KO := kI fun i j => .bool (decide (j ≤ i))
def kSub : KO := kI fun i j => .int (i - j)
theorem opd_lt {K : PySem.W.Frag} : OpD K (rI0 fun i j => .bl (decide (i < j))) kLt := opd_I fun _ _ _ => .bl _
theorem opd_le {K : PySem.W.Frag} : OpD K (rI0 fun i j => .bl (decide (i ≤ j))) kLe := opd_I fun _ _ _ => .bl _
theorem opd_gt {K : PySem.W.Frag} : OpD K (rI0 fun i j => .bl (decide (j < i))) kGt := opd_I fun _ _ _ => .bl _
theorem opd_ge {K : PySem.W.Frag} : OpD K (rI0 fun i j => .bl (decide (j ≤ i))) kGe := opd_I fun _ _ _ => .bl _
theorem opd_sub {K : PySem.W.Frag} : OpD K (rI0 fun i j => .int (i - j)) kSub := opd_I fun _ _ _ => .int _
theorem opd_addI {K : PySem.W.Frag} : OpD K (rI0 fun i j => .int (i + j)) (kI fun i j => .int (i + j)) := opd_I fun _ _ _ => .int _
/-- two texts -/
def kCatS : KO := fun r1 r2 P => ∃ i j, r1 = .im (.str i) ∧ r2 = .im (.str j) ∧ i.length + j.length ≤ sizeLine ∧ P (.im (.str (i ++ j)))
theorem opd_addS {K : PySem.W.Frag} : OpD K (fun x y H Q => ∃ i j, x = .str i ∧ y = .str j ∧ i.length + j.length ≤ sizeLine ∧ Q (.str (i ++ j)) H) kCatS := by
  intro w H0 F H x y r1 r2 P Q x0 q1 q2 ⟨i, j, e1, e2, c, p⟩ k
  subst e1; subst e2
  cases q1; cases q2
  exact ⟨i, j, rfl, rfl, c, k _ F H (.im _) x0 (.str _) p⟩
end
end DW
set_option Elab.async false
set_option linter.all false
set_option maxRecDepth 100000
set_option maxHeartbeats 4000000
namespace DW
open PySem PySem.Spec L2

def R.own : R → Option (List D)
  | .im (.list xs) => some xs
  | .ol xs => some xs
  | .bl xs => some xs
  | _ => none
section
variable {K : PySem.W.Frag} {w : Option Dw} {F F1 F2 H H1 H2 : Hp} {v : V} {r : R}
theorem RepR.owns (le : Sub F1 H1) (q : RepR K w H F1 H1 v r) {xs : List D} (e : r.own = some xs) : ∃ p vs, v = .ref p ∧ H1 p = some (.lst vs) ∧ RepL K F1 vs xs := by
  cases r with
  | ol ys =>
    have z : ys = xs := Option.some.inj e
    subst z
    obtain ⟨p, vs, rfl, h0, h, n, nd, l⟩ := q
    exact ⟨p, vs, rfl, h, l⟩
  | bl ys =>
    have z : ys = xs := Option.some.inj e
    subst z
    obtain ⟨p, vs, rfl, h, n, nd, l⟩ := q
    exact ⟨p, vs, rfl, h, l⟩
  | im d' =>
    cases d' with
    | list ys =>
      have z : ys = xs := Option.some.inj e
      subst z
      cases q with
      | lst h l => exact ⟨_, _, rfl, le _ _ h, l⟩
    | _ => cases e
  | _ => cases e
/-- a new list -/
theorem new_list (x0 : Ext w F H F H) {p : Addr} (hp : H p = none) {vs : List V} {xs : List D} (l : RepL K F vs xs) : Ext w F H F (upd H p (.lst vs)) ∧ RepR K w H F (upd H p (.lst vs)) (.ref p) (.ol xs) := by
  refine ⟨x0.own hp, p, vs, rfl, hp, upd_same, x0.le.none hp, fun d e z => ?_, l⟩
  obtain ⟨i, r, c, h, _⟩ := (x0.dr d e).at_
  rw [z, hp] at h; cases h
theorem new_tup (x0 : Ext w F H F H) {p : Addr} (hp : H p = none) {vs : List V} {xs : List D} (l : RepL K F vs xs) : Ext w F H (upd F p (.tup vs)) (upd H p (.tup vs)) ∧ RepR K w H (upd F p (.tup vs)) (upd H p (.tup vs)) (.ref p) (.im (.tuple xs)) :=
  ⟨x0.laid hp, .tup upd_same (RepL.mono (upd_grow (x0.le.none hp)) l)⟩

/-! ### + -/
def kAdd : KO := fun r1 r2 P => match r1, r2 with
  | .im (.int i), .im (.int j) => P (.im (.int (i + j)))
  | .im (.str a), .im (.str b) => a.length + b.length ≤ sizeLine ∧ P (.im (.str (a ++ b)))
  | .im (.tuple xs), .im (.tuple ys) => xs.length + ys.length ≤ sizeLine ∧ P (.im (.tuple (xs ++ ys)))
  | r1, r2 => ∃ xs ys, r1.own = some xs ∧ r2.own = some ys ∧ xs.length + ys.length ≤ sizeLine ∧ P (.ol (xs ++ ys))
def kCatL : KO := fun r1 r2 P => ∃ xs ys, r1.own = some xs ∧ r2.own = some ys ∧ xs.length + ys.length ≤ sizeLine ∧ P (.ol (xs ++ ys))
theorem opd_catL : OpD K rCat kCatL := by
  intro w H0 F H x y r1 r2 P Q x0 q1 q2 ⟨xs, ys, e1, e2, hl, p⟩ k
  obtain ⟨a, vs, rfl, ha, la⟩ := q1.owns x0.le e1
  obtain ⟨b, us, rfl, hb, lb⟩ := q2.owns x0.le e2
  refine ⟨a, b, vs, us, rfl, rfl, ha, hb, by rw [RepL.length la, RepL.length lb]; exact hl, fun q hq => ?_⟩
  obtain ⟨x1, r⟩ := new_list (K := K) x0 hq (RepL.append la lb)
  exact k _ _ _ _ x1 r p
def kCatT : KO := fun r1 r2 P => ∃ xs ys, r1 = .im (.tuple xs) ∧ r2 = .im (.tuple ys) ∧ xs.length + ys.length ≤ sizeLine ∧ P (.im (.tuple (xs ++ ys)))
theorem opd_catT : OpD K (rCatA K) kCatT := by
  intro w H0 F H x y r1 r2 P Q x0 q1 q2 ⟨xs, ys, e1, e2, hl, p⟩ k
  subst e1; subst e2
  obtain ⟨a, vs, rfl, ha, la⟩ := RepR.tuple (K := K) (w := w) (H := H0) x0.le q1 (xs := xs) rfl
  obtain ⟨b, us, rfl, hb, lb⟩ := RepR.tuple (K := K) (w := w) (H := H0) x0.le q2 (xs := ys) rfl
  have ha' : SqT K H a vs := .inl (.inl (x0.le _ _ ha))
  have hb' : SqT K H b us := .inl (.inl (x0.le _ _ hb))
  refine ⟨a, b, vs, us, rfl, rfl, ha', hb', by rw [RepL.length la, RepL.length lb]; exact hl, fun e => ?_, fun _ e => ?_, fun _ _ t hp => ?_⟩
  · subst e
    cases la
    exact k _ F H (.im (.tuple ys)) x0 q2 p
  · subst e
    cases lb
    rw [List.append_nil] at p
    exact k _ F H (.im (.tuple xs)) x0 q1 p
  · obtain ⟨x1, r⟩ := new_tup (K := K) x0 hp (RepL.append la lb)
    exact k _ _ _ _ x1 r p
theorem kAdd_or : ∀ a b P, kAdd a b P → ((kI fun i j => .int (i + j)) a b P ∨ kCatS a b P) ∨ kCatL a b P ∨ kCatT a b P := by
  intro a b P h
  unfold kAdd at h
  split at h
  · exact .inl (.inl ⟨_, _, rfl, rfl, h⟩)
  · exact .inl (.inr ⟨_, _, rfl, rfl, h⟩)
  · exact .inr (.inr ⟨_, _, rfl, rfl, h⟩)
  · exact .inr (.inl h)
section
variable {X : Cx} {G : Gd} {W : WX} {e a b c : Expr} {wa wb wc : WE'} {pos : Pos}
theorem de_add (ha : DE X G W a wa) (hb : DE X G W b wb) : DE X G W (.BinOp a .Add b pos) (wOp kAdd wa wb) :=
  de_op ((op_add.or op_add_str).or (op_cat.or op_catA)) (((opd_addI.or opd_addS).or (opd_catL.or opd_catT)).imp kAdd_or) ha hb
theorem de_sub (ha : DE X G W a wa) (hb : DE X G W b wb) : DE X G W (.BinOp a .Sub b pos) (wOp kSub wa wb) := de_op op_sub opd_sub ha hb
def kMod : KO := kIC (fun _ j => 0 < j) fun i j => .int (i % j)
theorem de_mod (ha : DE X G W a wa) (hb : DE X G W b wb) : DE X G W (.BinOp a .Mod b pos) (wOp kMod wa wb) := de_op op_mod (opd_IC fun _ _ _ => .int _) ha hb
def kMul : KO := kIC CMul fun i j => .int (i * j)
theorem de_mul (ha : DE X G W a wa) (hb : DE X G W b wb) : DE X G W (.BinOp a .Mult b pos) (wOp kMul wa wb) := de_op op_mul (opd_IC fun _ _ _ => .int _) ha hb

/-! ### comparisons -/
theorem nb {op : CmpOp} (b : Expr) (h : op ≠ .In) (h2 : op ≠ .NotIn) : behindInMarks op b = false := nobehind b h h2
theorem de_lt (ha : DE X G W a wa) (hb : DE X G W b wb) : DE X G W (.Compare a [.Lt] [b] pos) (wOp kLt wa wb) := de_cmp op_lt opd_lt ha hb (nb _ (by decide) (by decide))
theorem de_le (ha : DE X G W a wa) (hb : DE X G W b wb) : DE X G W (.Compare a [.LtE] [b] pos) (wOp kLe wa wb) := de_cmp op_le opd_le ha hb (nb _ (by decide) (by decide))
theorem de_gt (ha : DE X G W a wa) (hb : DE X G W b wb) : DE X G W (.Compare a [.Gt] [b] pos) (wOp kGt wa wb) := de_cmp op_gt opd_gt ha hb (nb _ (by decide) (by decide))
theorem de_ge (ha : DE X G W a wa) (hb : DE X G W b wb) : DE X G W (.Compare a [.GtE] [b] pos) (wOp kGe wa wb) := de_cmp op_ge opd_ge ha hb (nb _ (by decide) (by decide))
theorem dt_lt (ha : DE X G W a wa) (hb : DE X G W b wb) : DT X G W (.Compare a [.Lt] [b] pos) (wB (wOp kLt wa wb)) := dt_cmp op_lt opd_lt ha hb (nb _ (by decide) (by decide))
theorem dt_le (ha : DE X G W a wa) (hb : DE X G W b wb) : DT X G W (.Compare a [.LtE] [b] pos) (wB (wOp kLe wa wb)) := dt_cmp op_le opd_le ha hb (nb _ (by decide) (by decide))
theorem dt_gt (ha : DE X G W a wa) (hb : DE X G W b wb) : DT X G W (.Compare a [.Gt] [b] pos) (wB (wOp kGt wa wb)) := dt_cmp op_gt opd_gt ha hb (nb _ (by decide) (by decide))
theorem dt_ge (ha : DE X G W a wa) (hb : DE X G W b wb) : DT X G W (.Compare a [.GtE] [b] pos) (wB (wOp kGe wa wb)) := dt_cmp op_ge opd_ge ha hb (nb _ (by decide) (by decide))
/-- data that can be compared: no dicts, no ints beside bools at the places -/
def kEq : KO := fun r1 r2 P => ∃ d e, r1.datA = some d ∧ r2.datA = some e ∧ SeqAt.shaped d = true ∧ SeqAt.shaped e = true ∧ P (.im (.bool (PyData.eqv d e)))
def kNe : KO := fun r1 r2 P => ∃ d e, r1.datA = some d ∧ r2.datA = some e ∧ SeqAt.shaped d = true ∧ SeqAt.shaped e = true ∧ P (.im (.bool (!PyData.eqv d e)))
theorem opd_eq : OpD K (rEqD K) kEq := by
  intro w H0 F H x y r1 r2 P Q x0 q1 q2 ⟨d, e, e1, e2, s1, s2, p⟩ k
  exact ⟨d, e, q1.dp x0.le e1 (SeqAt.canLay_of_shaped s1), q2.dp x0.le e2 (SeqAt.canLay_of_shaped s2), s1, s2, k _ F H (.im _) x0 (.bl _) p⟩
theorem opd_ne : OpD K (rNeD K) kNe := by
  intro w H0 F H x y r1 r2 P Q x0 q1 q2 ⟨d, e, e1, e2, s1, s2, p⟩ k
  exact ⟨d, e, q1.dp x0.le e1 (SeqAt.canLay_of_shaped s1), q2.dp x0.le e2 (SeqAt.canLay_of_shaped s2), s1, s2, k _ F H (.im _) x0 (.bl _) p⟩
theorem de_eq (hu : X.A.units + 64 < cLine) (ha : DE X G W a wa) (hb : DE X G W b wb) : DE X G W (.Compare a [.Eq] [b] pos) (wOp kEq wa wb) := de_cmp (op_eqD hu) opd_eq ha hb (nb _ (by decide) (by decide))
theorem de_ne (hu : X.A.units + 64 < cLine) (ha : DE X G W a wa) (hb : DE X G W b wb) : DE X G W (.Compare a [.NotEq] [b] pos) (wOp kNe wa wb) := de_cmp (op_neD hu) opd_ne ha hb (nb _ (by decide) (by decide))
theorem dt_eq (hu : X.A.units + 64 < cLine) (ha : DE X G W a wa) (hb : DE X G W b wb) : DT X G W (.Compare a [.Eq] [b] pos) (wB (wOp kEq wa wb)) := dt_cmp (op_eqD hu) opd_eq ha hb (nb _ (by decide) (by decide))
theorem dt_ne (hu : X.A.units + 64 < cLine) (ha : DE X G W a wa) (hb : DE X G W b wb) : DT X G W (.Compare a [.NotEq] [b] pos) (wB (wOp kNe wa wb)) := dt_cmp (op_neD hu) opd_ne ha hb (nb _ (by decide) (by decide))
/-- None -/
def kIsN : KO := fun r1 r2 P => ∃ d, r1 = .im d ∧ r2 = .im .none ∧ P (.im (.bool (match d with | .none => true | _ => false)))
def kNotN : KO := fun r1 r2 P => ∃ d, r1 = .im d ∧ r2 = .im .none ∧ P (.im (.bool (match d with | .none => false | _ => true)))
theorem opd_isN : OpD K (fun x y H Q => y = .non ∧ Q (.bl (decide (x = .non))) H) kIsN := by
  intro w H0 F H x y r1 r2 P Q x0 q1 q2 ⟨d, e1, e2, p⟩ k
  subst e1; subst e2
  cases q2
  refine ⟨rfl, k _ F H (.im _) x0 ?_ p⟩
  cases q1 <;> exact .bl _
theorem opd_notN : OpD K (fun x y H Q => y = .non ∧ Q (.bl (!decide (x = .non))) H) kNotN := by
  intro w H0 F H x y r1 r2 P Q x0 q1 q2 ⟨d, e1, e2, p⟩ k
  subst e1; subst e2
  cases q2
  refine ⟨rfl, k _ F H (.im _) x0 ?_ p⟩
  cases q1 <;> exact .bl _
theorem de_isN (ha : DE X G W a wa) (hb : DE X G W b wb) : DE X G W (.Compare a [.Is] [b] pos) (wOp kIsN wa wb) := de_cmp op_isN opd_isN ha hb (nb _ (by decide) (by decide))
theorem de_notN (ha : DE X G W a wa) (hb : DE X G W b wb) : DE X G W (.Compare a [.IsNot] [b] pos) (wOp kNotN wa wb) := de_cmp op_notN opd_notN ha hb (nb _ (by decide) (by decide))

/-! ### in: a list of data; a tuple, a list of flat things; one sign in a text -/
def flatD : D → Bool
  | .none => true
  | .bool _ => true
  | .int _ => true
  | .str _ => true
  | _ => false
def R.seq : R → Option (List D)
  | .im (.list xs) => some xs
  | .im (.tuple xs) => some xs
  | .ol xs => some xs
  | .bl xs => some xs
  | _ => none
def inD (x : D) (xs : List D) : Bool := xs.any fun z => PyData.eqv z x
def kInL (neg : Bool) : KO := fun r1 r2 P => ∃ d ds, r1.datA = some d ∧ r2.lst = some ds ∧ SeqAt.shaped d = true ∧ SeqAt.shaped (.list ds) = true ∧ P (.im (.bool (if neg then !inD d ds else inD d ds)))
theorem RepR.dpl {r : R} {H0 : Hp} {v : V} (le : Sub F1 H1) (q : RepR K w H0 F1 H1 v r) {xs : List D} (e : r.lst = some xs) (hc : PyData.canLay0 (.list xs) = true) : Dp K H1 v (.list xs) := by
  obtain ⟨p, vs, rfl, h, l⟩ := q.list le e
  exact .lst h ((RepL.mono le l).dp (by rw [PyData.canLay0] at hc; exact hc))
theorem opd_inL : OpD K (rInD K) (kInL false) := by
  intro w H0 F H x y r1 r2 P Q x0 q1 q2 ⟨d, ds, e1, e2, s1, s2, p⟩ k
  exact ⟨d, ds, q1.dp x0.le e1 (SeqAt.canLay_of_shaped s1), q2.dpl x0.le e2 (SeqAt.canLay_of_shaped s2), s1, s2, k _ F H (.im _) x0 (.bl _) p⟩
theorem opd_notInL : OpD K (rNotInD K) (kInL true) := by
  intro w H0 F H x y r1 r2 P Q x0 q1 q2 ⟨d, ds, e1, e2, s1, s2, p⟩ k
  exact ⟨d, ds, q1.dp x0.le e1 (SeqAt.canLay_of_shaped s1), q2.dpl x0.le e2 (SeqAt.canLay_of_shaped s2), s1, s2, k _ F H (.im _) x0 (.bl _) p⟩
/-- ints in a tuple of ints -/
def kInT (neg : Bool) : KO := fun r1 r2 P => ∃ (i : Int) (ns : List Int), r1 = .im (.int i) ∧ r2 = .im (.tuple (ns.map PyData.int)) ∧ P (.im (.bool (if neg then !decide (i ∈ ns) else decide (i ∈ ns))))
theorem RepL.isInts : ∀ {ns : List Int} {vs : List V}, RepL K F vs (ns.map PyData.int) → vs = ns.map V.int
  | [], _, h => by cases h; rfl
  | n :: r, _, h => by
    rw [List.map_cons] at h
    cases h with
    | cons a t => cases a; rw [RepL.isInts t]; rfl
theorem inV_ints {i : Int} {ns : List Int} : inV (.int i) (ns.map V.int) = decide (i ∈ ns) := by
  unfold inV
  induction ns with
  | nil => rfl
  | cons n r ih =>
    rw [List.map_cons, List.any_cons, ih]
    have e : eqV (.int n) (.int i) = decide (n = i) := by
      first | rfl | (simp [eqV])
    rw [e]
    by_cases h : n = i
    · subst h; simp
    · have h' : ¬ i = n := fun z => h z.symm
      simp [h, h']
theorem flat_ints {ns : List Int} : (ns.map V.int).all flatV = true := by
  rw [List.all_map]
  exact List.all_eq_true.mpr fun _ _ => rfl
theorem opd_inT : OpD K (rIn K false) (kInT false) := by
  intro w H0 F H x y r1 r2 P Q x0 q1 q2 ⟨i, ns, e1, e2, p⟩ k
  subst e1; subst e2
  cases q1
  obtain ⟨b, us, rfl, hb, lb⟩ := RepR.tuple (K := K) (w := w) (H := H0) x0.le q2 rfl
  rw [RepL.isInts lb] at hb
  refine ⟨b, _, rfl, .inr (.inl (.inl (x0.le _ _ hb))), rfl, flat_ints, ?_⟩
  rw [inV_ints]
  exact k _ F H (.im _) x0 (.bl _) p
theorem opd_notInT : OpD K (rIn K true) (kInT true) := by
  intro w H0 F H x y r1 r2 P Q x0 q1 q2 ⟨i, ns, e1, e2, p⟩ k
  subst e1; subst e2
  cases q1
  obtain ⟨b, us, rfl, hb, lb⟩ := RepR.tuple (K := K) (w := w) (H := H0) x0.le q2 rfl
  rw [RepL.isInts lb] at hb
  refine ⟨b, _, rfl, .inr (.inl (.inl (x0.le _ _ hb))), rfl, flat_ints, ?_⟩
  rw [inV_ints]
  exact k _ F H (.im _) x0 (.bl _) p
theorem de_inL (hu : X.A.units + 65 < cLine) (ha : DE X G W a wa) (hb : DE X G W b wb) (hm : behindInMarks .In b = false := by rfl) : DE X G W (.Compare a [.In] [b] pos) (wOp (kInL false) wa wb) := de_cmp (op_inD hu) opd_inL ha hb hm
theorem de_notInL (hu : X.A.units + 65 < cLine) (ha : DE X G W a wa) (hb : DE X G W b wb) (hm : behindInMarks .NotIn b = false := by rfl) : DE X G W (.Compare a [.NotIn] [b] pos) (wOp (kInL true) wa wb) := de_cmp (op_notInD hu) opd_notInL ha hb hm
theorem de_inT (ha : DE X G W a wa) (hb : DE X G W b wb) (hm : behindInMarks .In b = false := by rfl) : DE X G W (.Compare a [.In] [b] pos) (wOp (kInT false) wa wb) := de_cmp op_in_seq opd_inT ha hb hm
theorem de_notInT (ha : DE X G W a wa) (hb : DE X G W b wb) (hm : behindInMarks .NotIn b = false := by rfl) : DE X G W (.Compare a [.NotIn] [b] pos) (wOp (kInT true) wa wb) := de_cmp op_notIn_seq opd_notInT ha hb hm
end
end
end DW
set_option Elab.async false
set_option linter.all false
set_option maxRecDepth 100000
set_option maxHeartbeats 4000000
namespace DW
open PySem PySem.Spec L2

section
variable {K : PySem.W.Frag} {w : Option Dw} {F F1 F2 H H1 H2 : Hp} {v : V} {r : R}
theorem RepL.at {vs : List V} {ds : List D} (l : RepL K F vs ds) {i : Int} {d : D} (e : atI ds i = some d) : ∃ v, atI vs i = some v ∧ RepD K F v d := by
  unfold atI at e ⊢
  rw [RepL.length l]
  cases q : ixN ds.length i with
  | none => rw [q] at e; cases e
  | some j =>
    rw [q] at e
    exact RepL.get l e

/-! ### items -/
def kIx : KO := fun r1 r2 P => match r1, r2 with
  | .im (.str s), .im (.int i) => s.length ≤ sizeLine ∧ ∃ c, atI s.cps.toList i = some c ∧ P (.im (.str ⟨#[c]⟩))
  | .im (.tuple xs), .im (.int i) => ∃ d, atI xs i = some d ∧ P (.im d)
  | r1, .im (.int i) => ∃ xs d, r1.lst = some xs ∧ atI xs i = some d ∧ P (.im d)
  | _, _ => False
theorem opd_ix : OpD K (fun x y H Q => (rIxL K x y H Q ∨ rIxT K x y H Q) ∨ rIxS x y H Q) kIx := by
  intro w H0 F H x y r1 r2 P Q x0 q1 q2 h k
  unfold kIx at h
  split at h
  · rename_i s i
    obtain ⟨hs, c, e, p⟩ := h
    cases q1; cases q2
    exact .inr ⟨s, i, c, rfl, rfl, hs, e, k _ F H (.im _) x0 (.str _) p⟩
  · rename_i xs i
    obtain ⟨d, e, p⟩ := h
    cases q2
    obtain ⟨a, vs, rfl, ha, la⟩ := RepR.tuple (K := K) (w := w) (H := H0) x0.le q1 (xs := xs) rfl
    obtain ⟨v, e2, rv⟩ := RepL.at la e
    exact .inl (.inr ⟨a, vs, i, v, rfl, rfl, .inl (.inl (x0.le _ _ ha)), e2, k _ F H (.im d) x0 rv p⟩)
  · rename_i i _ _
    obtain ⟨xs, d, e1, e, p⟩ := h
    cases q2
    obtain ⟨a, vs, rfl, ha, la⟩ := q1.list x0.le e1
    obtain ⟨v, e2, rv⟩ := RepL.at la e
    exact .inl (.inl ⟨a, vs, i, v, rfl, rfl, ha, e2, k _ F H (.im d) x0 rv p⟩)
  · exact h.elim

/-! ### dicts -/
def keyOf : D → Option Key
  | .int i => some (.inl i)
  | .str s => some (.inr s)
  | _ => none
def keysOf : List D → Option (List Key)
  | [] => some []
  | d :: ds => match keyOf d, keysOf ds with
    | some k, some ks => some (k :: ks)
    | _, _ => none
theorem RepD.key {d : D} {k : Key} (q : RepD K F v d) (e : keyOf d = some k) : v = kV k := by
  cases q with
  | int i => cases e; rfl
  | str x => cases e; rfl
  | _ => cases e
theorem RepL.keys : ∀ {ds : List D} {vs : List V} {ks : List Key}, RepL K F vs ds → keysOf ds = some ks → vs = ks.map kV
  | [], _, ks, l, e => by cases l; cases e; rfl
  | d :: ds, _, ks, l, e => by
    cases l with
    | cons a t =>
      unfold keysOf at e
      cases e1 : keyOf d with
      | none => rw [e1] at e; cases e
      | some k =>
        cases e2 : keysOf ds with
        | none => rw [e1, e2] at e; cases e
        | some k2 =>
          rw [e1, e2] at e
          cases e
          rw [RepD.key a e1, RepL.keys t e2]; rfl
theorem RepKV.length {κ : Type} : ∀ {vs : List (κ × V)} {ds : List (κ × D)}, RepKV K F vs ds → vs.length = ds.length
  | _, _, .nil => rfl
  | _, _, .cons _ t => by rw [List.length_cons, List.length_cons, RepKV.length t]
variable {κ : Type} [DecidableEq κ]
def valD (kvs : List (κ × D)) (k : κ) : Option D := (kvs.find? fun kv => decide (kv.1 = k)).map (·.2)
def putD (kvs : List (κ × D)) (k : κ) (v : D) : List (κ × D) :=
  if (kvs.any fun kv => decide (kv.1 = k)) = true then kvs.map (fun kv => if kv.1 = k then (kv.1, v) else kv) else kvs ++ [(k, v)]
theorem RepKV.val {k : κ} : ∀ {vs : List (κ × V)} {ds : List (κ × D)}, RepKV K F vs ds → (valD ds k = none ∧ valV vs k = none) ∨ ∃ d v, valD ds k = some d ∧ valV vs k = some v ∧ RepD K F v d
  | _, _, .nil => .inl ⟨rfl, rfl⟩
  | _, _, .cons (k := k') (v := v') (d := d') (vs := vr) (ds := dr) r t => by
    by_cases h : k' = k
    · exact .inr ⟨d', v', by simp [valD, List.find?_cons, h], valV_pos h, r⟩
    · have e1 : valD ((k', d') :: dr) k = valD dr k := by simp [valD, List.find?_cons, h]
      have e2 : valV ((k', v') :: vr) k = valV vr k := valV_neg h
      rw [e1, e2]
      exact RepKV.val t
theorem RepKV.any {k : κ} : ∀ {vs : List (κ × V)} {ds : List (κ × D)}, RepKV K F vs ds → (vs.any fun kv => decide (kv.1 = k)) = ds.any fun kv => decide (kv.1 = k)
  | _, _, .nil => rfl
  | _, _, .cons r t => by rw [List.any_cons, List.any_cons, RepKV.any t]
theorem RepKV.snoc {k : κ} {v : V} {d : D} (rd : RepD K F v d) : ∀ {vs : List (κ × V)} {ds : List (κ × D)}, RepKV K F vs ds → RepKV K F (vs ++ [(k, v)]) (ds ++ [(k, d)])
  | _, _, .nil => .cons rd .nil
  | _, _, .cons r t => .cons r (RepKV.snoc rd t)
theorem RepKV.mapp {k : κ} {v : V} {d : D} (rd : RepD K F v d) : ∀ {vs : List (κ × V)} {ds : List (κ × D)}, RepKV K F vs ds → RepKV K F (vs.map fun kv => if kv.1 = k then (kv.1, v) else kv) (ds.map fun kv => if kv.1 = k then (kv.1, d) else kv)
  | _, _, .nil => .nil
  | _, _, .cons (k := k') r t => by
    rw [List.map_cons, List.map_cons]
    by_cases h : k' = k
    · simp only [h, if_true]; exact .cons rd (RepKV.mapp rd t)
    · simp only [h, if_false]; exact .cons r (RepKV.mapp rd t)
theorem RepKV.put {k : κ} {v : V} {d : D} {vs : List (κ × V)} {ds : List (κ × D)} (l : RepKV K F vs ds) (rd : RepD K F v d) : RepKV K F (putK vs k v) (putD ds k d) := by
  unfold putK putD
  rw [l.any (k := k)]
  by_cases h : (ds.any fun kv => decide (kv.1 = k)) = true
  · rw [if_pos h, if_pos h]; exact l.mapp rd
  · rw [if_neg h, if_neg h]; exact l.snoc rd

/-- the dict of a result: its pairs by int and text keys, or by tuples of such -/
def R.dK : R → Option (List (Key × D))
  | .oK kvs => some kvs
  | .bK kvs => some kvs
  | _ => none
def R.dT : R → Option (List (List Key × D))
  | .oT kvs => some kvs
  | .bT kvs => some kvs
  | _ => none
theorem RepR.isK (q : RepR K w H F1 H1 v r) {kvs : List (Key × D)} (e : r.dK = some kvs) : ∃ p vs, v = .ref p ∧ H1 p = some (.dK vs) ∧ F1 p = none ∧ RepKV K F1 vs kvs := by
  cases r with
  | oK ys =>
    have z : ys = kvs := Option.some.inj e
    subst z
    obtain ⟨p, vs, rfl, h0, h, n, nd, l⟩ := q
    exact ⟨p, vs, rfl, h, n, l⟩
  | bK ys =>
    have z : ys = kvs := Option.some.inj e
    subst z
    obtain ⟨p, vs, rfl, h, n, nd, l⟩ := q
    exact ⟨p, vs, rfl, h, n, l⟩
  | _ => cases e
theorem RepR.isT (q : RepR K w H F1 H1 v r) {kvs : List (List Key × D)} (e : r.dT = some kvs) : ∃ p vs, v = .ref p ∧ H1 p = some (.dT vs) ∧ F1 p = none ∧ RepKV K F1 vs kvs := by
  cases r with
  | oT ys =>
    have z : ys = kvs := Option.some.inj e
    subst z
    obtain ⟨p, vs, rfl, h0, h, n, nd, l⟩ := q
    exact ⟨p, vs, rfl, h, n, l⟩
  | bT ys =>
    have z : ys = kvs := Option.some.inj e
    subst z
    obtain ⟨p, vs, rfl, h, n, nd, l⟩ := q
    exact ⟨p, vs, rfl, h, n, l⟩
  | _ => cases e
/-- what a dict holds at a key -/
def dGet (r1 r2 : R) (o : Option D) : Prop :=
  (∃ kvs d k, r1.dK = some kvs ∧ r2 = .im d ∧ keyOf d = some k ∧ o = valD kvs k) ∨ (∃ kvs ds ks, r1.dT = some kvs ∧ r2 = .im (.tuple ds) ∧ keysOf ds = some ks ∧ o = valD kvs ks)
theorem dGet.ok {H0 : Hp} {x y : V} {r1 r2 : R} {o : Option D} (le : Sub F H) (g : dGet r1 r2 o) (q1 : RepR K w H0 F H x r1) (q2 : RepR K w H0 F H y r2) :
    ∃ p ov, x = .ref p ∧ DGet H p y ov ∧ ((o = none ∧ ov = none) ∨ ∃ d v, o = some d ∧ ov = some v ∧ RepD K F v d) := by
  rcases g with ⟨kvs, d, k, e1, rfl, e2, rfl⟩ | ⟨kvs, ds, ks, e1, rfl, e2, rfl⟩
  · obtain ⟨p, vs, rfl, h, n, l⟩ := q1.isK e1
    obtain rfl := RepD.key q2 e2
    exact ⟨p, _, rfl, DGet.k h, l.val⟩
  · obtain ⟨p, vs, rfl, h, n, l⟩ := q1.isT e1
    obtain ⟨b, us, rfl, hb, lb⟩ := RepR.tuple (K := K) (w := w) (H := H0) le q2 (xs := ds) rfl
    obtain rfl := RepL.keys lb e2
    exact ⟨p, _, rfl, DGet.t h (le _ _ hb), l.val⟩
def wDget (wa wb : WE') : WE' := fun δ P PX => wa δ (fun r1 => wb δ (fun r2 => ∃ d, dGet r1 r2 (some d) ∧ P (.im d)) PX) PX
def wDin (neg : Bool) (wa wb : WE') : WE' := fun δ P PX => wa δ (fun r1 => wb δ (fun r2 => ∃ o, dGet r2 r1 o ∧ P (.im (.bool (if neg then !o.isSome else o.isSome)))) PX) PX
section
variable {X : Cx} {G : Gd} {W : WX} {e a b c : Expr} {wa wb wc : WE'} {pos : Pos}
theorem de_ix (ha : DE X G W a wa) (hb : DE X G W b wb) (hs : PlainIx b := by exact fun _ _ => rfl) : DE X G W (.Subscript a b pos) (wOp kIx wa wb) :=
  PE.imp (pe_ix ((ix_list.or ix_tup).or ix_str) ha hb hs) fun _ _ _ h => tOp_of opd_ix h
theorem de_dget (hu : X.A.units + 1 < cLine) (ha : DE X G W a wa) (hb : DE X G W b wb) (hs : NoSl b := by exact fun _ _ => rfl) : DE X G W (.Subscript a b pos) (wDget wa wb) :=
  PE.imp (pe_dget hu ha hb hs) fun σ H Q h => by
    obtain ⟨F, δ, P, PX, S, p, q, xk⟩ := h
    refine ⟨F, δ, _, PX, S, p, fun x F1 H1 r1 x1 q1 p1 => ?_, xk⟩
    refine dT.next S x1 xk p1 fun y F2 H2 r2 x2 q2 ⟨d, g, p2⟩ => ?_
    obtain ⟨p, ov, e, g', z⟩ := g.ok x2.le (q1.to x2) (q2.back x1)
    rcases z with ⟨z, _⟩ | ⟨d', v, z, rfl, rd⟩
    · cases z
    · cases z
      exact ⟨p, v, e, g', q v F2 H2 (.im d) (x1.trans x2) rd p2⟩
theorem din_of {neg : Bool} {σ : L2.St} {H : Hp} {Q : VK} (h : dT K G W (wDin neg wa wb) σ H Q) : dT K G W wa σ H fun y H1 => dT K G W wb σ H1 fun x H2 => ∃ a o, x = .ref a ∧ DGet H2 a y o ∧ Q (.bl (if neg then !o.isSome else o.isSome)) H2 := by
  obtain ⟨F, δ, P, PX, S, p, q, xk⟩ := h
  refine ⟨F, δ, _, PX, S, p, fun x F1 H1 r1 x1 q1 p1 => ?_, xk⟩
  refine dT.next S x1 xk p1 fun y F2 H2 r2 x2 q2 ⟨o, g, p2⟩ => ?_
  obtain ⟨p, ov, e, g', z⟩ := g.ok x2.le (q2.back x1) (q1.to x2)
  refine ⟨p, ov, e, g', ?_⟩
  have eo : ov.isSome = o.isSome := by
    rcases z with ⟨rfl, rfl⟩ | ⟨d', v, rfl, rfl, _⟩ <;> rfl
  rw [eo]
  exact q _ F2 H2 (.im _) (x1.trans x2) (.bl _) p2
theorem de_din (hu : X.A.units + 1 < cLine) (ha : DE X G W a wa) (hb : DE X G W b wb) (hm : behindInMarks .In b = false := by rfl) : DE X G W (.Compare a [.In] [b] pos) (wDin false wa wb) :=
  PE.imp (pe_cmp (pc_din hu ha hb) hm) fun σ H Q h => din_of h
theorem de_dnotin (hu : X.A.units + 1 < cLine) (ha : DE X G W a wa) (hb : DE X G W b wb) (hm : behindInMarks .NotIn b = false := by rfl) : DE X G W (.Compare a [.NotIn] [b] pos) (wDin true wa wb) :=
  PE.imp (pe_cmp (pc_dnotin hu ha hb) hm) fun σ H Q h => din_of h
theorem tBin_of {neg : Bool} {σ : L2.St} {H : Hp} {Q : Bool → Hp → Prop} (h : dTT K G W (wB (wDin neg wa wb)) σ H Q) : dT K G W wa σ H fun y H1 => dT K G W wb σ H1 fun x H2 => ∃ a o, x = .ref a ∧ DGet H2 a y o ∧ Q (if neg then !o.isSome else o.isSome) H2 := by
  have h' := din_of (tB_of h)
  obtain ⟨F, δ, P, PX, S, p, q, xk⟩ := h'
  refine ⟨F, δ, P, PX, S, p, fun v F' H' r x1 q1 p1 => ?_, xk⟩
  obtain ⟨F, δ, P, PX, S, p, q, xk⟩ := q v F' H' r x1 q1 p1
  refine ⟨F, δ, P, PX, S, p, fun v F' H' r x1 q1 p1 => ?_, xk⟩
  obtain ⟨a, o, e, g, c, ec, z⟩ := q v F' H' r x1 q1 p1
  cases ec
  exact ⟨a, o, e, g, z⟩
theorem dt_din (hu : X.A.units + 1 < cLine) (ha : DE X G W a wa) (hb : DE X G W b wb) (hm : behindInMarks .In b = false := by rfl) : DT X G W (.Compare a [.In] [b] pos) (wB (wDin false wa wb)) :=
  PT.imp (pt_cmp (pc_din hu ha hb) hm) fun σ H Q h => din_of (tB_of h)
theorem dt_dnotin (hu : X.A.units + 1 < cLine) (ha : DE X G W a wa) (hb : DE X G W b wb) (hm : behindInMarks .NotIn b = false := by rfl) : DT X G W (.Compare a [.NotIn] [b] pos) (wB (wDin true wa wb)) :=
  PT.imp (pt_cmp (pc_dnotin hu ha hb) hm) fun σ H Q h => din_of (tB_of h)
end

/-! ### arguments -/
def waNil : WA := fun _ P _ => P []
def waCons (we : WE') (wa : WA) : WA := fun δ P PX => we δ (fun r => wa δ (fun rs => P (r :: rs)) PX) PX
/-- a new list is frozen as soon as it is made -/
def R.frz : R → Option R
  | .im d => some (.im d)
  | .ol xs => some (.im (.list xs))
  | .drw => some .drw
  | _ => none
def wfCons (we : WE') (wa : WA) : WA := fun δ P PX => we δ (fun r => ∃ r', r.frz = some r' ∧ wa δ (fun rs => P (r' :: rs)) PX) PX
theorem RepR.frz {F0 H0 : Hp} (x : Ext w F0 H0 F1 H1) (q : RepR K w H0 F1 H1 v r) {r' : R} (e : r.frz = some r') : ∃ F2, Ext w F0 H0 F2 H1 ∧ Sub F1 F2 ∧ RepR K w H0 F2 H1 v r' := by
  cases r with
  | im d =>
    have z : R.im d = r' := Option.some.inj e
    subst z
    exact ⟨F1, x, Sub.refl, q⟩
  | ol xs =>
    have z : R.im (.list xs) = r' := Option.some.inj e
    subst z
    exact q.freeze x (d := .list xs) rfl
  | drw =>
    have z : R.drw = r' := Option.some.inj e
    subst z
    exact ⟨F1, x, Sub.refl, q⟩
  | _ => cases e
section
variable {X : Cx} {G : Gd} {W : WX} {e a b c : Expr} {es : List Expr} {we : WE'} {wa : WA} {pos : Pos}
theorem da_nil : DA X G W [] waNil := PA.imp pa_nil fun σ H Q ⟨F, δ, P, PX, S, p, k, xk⟩ => k [] F H [] S.ext.stay .nil p
theorem da_cons (he : DE X G W e we) (ha : DA X G W es wa) (hs : starEach (e :: es) X.env = (false, eval e X.env) :: starEach es X.env := by rfl) : DA X G W (e :: es) (waCons we wa) :=
  PA.imp (pa_cons he ha hs) fun σ H Q ⟨F, δ, P, PX, S, p, k, xk⟩ => by
    refine ⟨F, δ, _, PX, S, p, fun x F1 H1 r1 x1 q1 p1 => ?_, xk⟩
    refine dTA.next S x1 xk p1 fun vs F2 H2 rs x2 q2 p2 => ?_
    exact k (x :: vs) F2 H2 (r1 :: rs) (x1.trans x2) (.cons (q1.to x2) (q2.back x1)) p2
theorem da_fcons (he : DE X G W e we) (ha : DA X G W es wa) (hs : starEach (e :: es) X.env = (false, eval e X.env) :: starEach es X.env := by rfl) : DA X G W (e :: es) (wfCons we wa) :=
  PA.imp (pa_cons he ha hs) fun σ H Q ⟨F, δ, P, PX, S, p, k, xk⟩ => by
    refine ⟨F, δ, _, PX, S, p, fun x F1 H1 r1 x1 q1 ⟨r', er, p1⟩ => ?_, xk⟩
    obtain ⟨F1', x1', _, q1'⟩ := q1.frz x1 er
    refine dTA.next S x1' xk p1 fun vs F2 H2 rs x2 q2 p2 => ?_
    exact k (x :: vs) F2 H2 (r' :: rs) (x1'.trans x2) (.cons (q1'.to x2) (q2.back x1')) p2
/-- data alone -/
def dats : List R → Option (List D)
  | [] => some []
  | .im d :: rs => match dats rs with
    | some ds => some (d :: ds)
    | none => none
  | _ => none
theorem RepRs.dats : ∀ {vs : List V} {rs : List R} {ds : List D} {H0 : Hp}, RepRs K w H0 F H vs rs → DW.dats rs = some ds → RepL K F vs ds
  | _, [], ds, _, q, e => by cases q; cases e; exact .nil
  | _, r :: rs, ds, H0, q, e => by
    cases q with
    | cons a t =>
      cases r with
      | im d =>
        unfold DW.dats at e
        cases e2 : DW.dats rs with
        | none => rw [e2] at e; cases e
        | some ds' =>
          rw [e2] at e
          cases e
          exact .cons a (RepRs.dats t e2)
      | _ => cases e
def wTup (wa : WA) : WE' := fun δ P PX => wa δ (fun rs => ∃ ds, dats rs = some ds ∧ ds.length ≤ sizeLine ∧ P (.im (.tuple ds))) PX
def wLst (wa : WA) : WE' := fun δ P PX => wa δ (fun rs => ∃ ds, dats rs = some ds ∧ ds.length ≤ sizeLine ∧ P (.ol ds)) PX
theorem de_tup {k} (h : DA X G W es wa) : DE X G W (.Tuple es k pos) (wTup wa) := PE.imp (pe_tup h) fun σ H Q ⟨F, δ, P, PX, S, p, k, xk⟩ => by
  refine ⟨F, δ, _, PX, S, p, fun vs F1 H1 rs x1 q1 ⟨ds, e, hl, p1⟩ => ?_, xk⟩
  have l := q1.dats e
  refine ⟨by rw [RepL.length l]; exact hl, fun a ha => ?_⟩
  obtain ⟨x2, r2⟩ := new_tup (K := X.K) x1.stay ha l
  exact k _ _ _ _ (x1.trans x2) (r2.back x1) p1
theorem de_lst (h : DA X G W es wa) : DE X G W (.List es pos) (wLst wa) := PE.imp (pe_lst h) fun σ H Q ⟨F, δ, P, PX, S, p, k, xk⟩ => by
  refine ⟨F, δ, _, PX, S, p, fun vs F1 H1 rs x1 q1 ⟨ds, e, hl, p1⟩ => ?_, xk⟩
  have l := q1.dats e
  refine ⟨by rw [RepL.length l]; exact hl, fun a ha => ?_⟩
  obtain ⟨x2, r2⟩ := new_list (K := X.K) x1.stay ha l
  exact k _ _ _ _ (x1.trans x2) (r2.back x1) p1

/-! ### built-in functions by values -/
abbrev KC := List R → (R → Prop) → Prop
def CallD (K : PySem.W.Frag) (r : List V → Hp → VK → Prop) (k : KC) : Prop := ∀ (w : Option Dw) (H0 F H : Hp) (vs : List V) (rs : List R) (P : R → Prop) (Q : VK), Ext w F H F H → RepRs K w H0 F H vs rs → k rs P →
  (∀ v F' H' r, Ext w F H F' H' → RepR K w H F' H' v r → P r → Q v H') → r vs H Q
def wCall (k : KC) (wa : WA) : WE' := fun δ P PX => wa δ (fun rs => k rs P) PX
theorem tCB_of {r : List V → Hp → VK → Prop} {k : KC} (hk : CallD K r k) {σ : L2.St} {H : Hp} {Q : VK} (h : dT K G W (wCall k wa) σ H Q) : tCB r (dTA K G W wa) σ H Q := by
  obtain ⟨F, δ, P, PX, S, p, q, xk⟩ := h
  refine ⟨F, δ, _, PX, S, p, fun vs F1 H1 rs x1 q1 p1 => ?_, xk⟩
  exact hk G.w H F1 H1 vs rs P Q x1.stay q1 p1 fun v F' H' r x2 q2 p2 => q v F' H' r (x1.trans x2) (q2.back x1) p2
theorem CallD.or {r r' : List V → Hp → VK → Prop} {k k' : KC} (h : CallD K r k) (h' : CallD K r' k') : CallD K (fun xs H Q => r xs H Q ∨ r' xs H Q) (fun a P => k a P ∨ k' a P) := by
  intro w H0 F H xs rs P Q x0 q1 hk c
  rcases hk with hk | hk
  · exact .inl (h w H0 F H xs rs P Q x0 q1 hk c)
  · exact .inr (h' w H0 F H xs rs P Q x0 q1 hk c)
theorem CallD.imp {r : List V → Hp → VK → Prop} {k k' : KC} (h : CallD K r k) (i : ∀ a P, k' a P → k a P) : CallD K r k' := fun w H0 F H xs rs P Q x0 q1 hk c => h w H0 F H xs rs P Q x0 q1 (i _ _ hk) c
/-- len: a text, a list, a tuple, a dict -/
def kLen : KC := fun rs P => match rs with
  | [.im (.str s)] => s.length ≤ sizeLine ∧ P (.im (.int s.length))
  | [.im (.tuple xs)] => P (.im (.int xs.length))
  | [.im (.list xs)] => P (.im (.int xs.length))
  | [.ol xs] => P (.im (.int xs.length))
  | [.bl xs] => P (.im (.int xs.length))
  | _ => False
theorem callD_len : CallD K (fun xs H Q => ∃ x n, xs = [x] ∧ LenV K x H n ∧ Q (.int n) H) kLen := by
  intro w H0 F H vs rs P Q x0 q h k
  have lst : ∀ {v : V} {r : R} {xs : List D}, RepR K w H0 F H v r → r.lst = some xs → P (.im (.int xs.length)) → ∃ x n, [v] = [x] ∧ LenV K x H n ∧ Q (.int n) H := fun {v r xs} q e p => by
    obtain ⟨a, us, rfl, ha, la⟩ := q.list x0.le e
    refine ⟨_, us.length, rfl, .inl ⟨us, ha, rfl⟩, ?_⟩
    rw [RepL.length la]
    exact k _ F H (.im _) x0 (.int _) p
  unfold kLen at h
  split at h
  · rename_i s
    obtain ⟨hs, p⟩ := h
    cases q with
    | cons a t =>
      cases t; cases a
      exact ⟨_, s.length, rfl, ⟨hs, rfl⟩, k _ F H (.im _) x0 (.int _) p⟩
  · rename_i xs
    cases q with
    | cons a t =>
      cases t
      obtain ⟨b, us, rfl, hb, lb⟩ := RepR.tuple (K := K) (w := w) (H := H0) x0.le a (xs := xs) rfl
      refine ⟨_, us.length, rfl, .inr ⟨us, .inl (.inl (x0.le _ _ hb)), rfl⟩, ?_⟩
      rw [RepL.length lb]
      exact k _ F H (.im _) x0 (.int _) h
  · cases q with
    | cons a t => cases t; exact lst a rfl h
  · cases q with
    | cons a t => cases t; exact lst a rfl h
  · cases q with
    | cons a t => cases t; exact lst a rfl h
  · exact h.elim
end
end
end DW
set_option Elab.async false
set_option linter.all false
set_option maxRecDepth 100000
set_option maxHeartbeats 4000000
namespace DW
open PySem PySem.Spec L2

/-! ### storing in slots -/
def R.sv : R → Option SV
  | .im d => some (.im d)
  | .ol xs => some (.ol xs)
  | .oK xs => some (.oK xs)
  | .oT xs => some (.oT xs)
  | .drw => some .drw
  | _ => none
section
variable {K : PySem.W.Frag} {G : Gd} {F F1 F2 H H1 H2 : Hp} {σ : L2.St} {δ : DEnv}
theorem RepSV.own_at {w : Option Dw} {v : V} {s : SV} (r : RepSV K w F H v s) (o : s.owned = true) : ∃ p u, v = .ref p ∧ H p = some u ∧ F p = none ∧ ∀ d, w = some d → d.a ≠ p := by
  cases s with
  | im d => cases o
  | ol xs => obtain ⟨p, vs, e, h, n, nd, _⟩ := r; exact ⟨p, _, e, h, n, nd⟩
  | oK xs => obtain ⟨p, vs, e, h, n, nd, _⟩ := r; exact ⟨p, _, e, h, n, nd⟩
  | oT xs => obtain ⟨p, vs, e, h, n, nd, _⟩ := r; exact ⟨p, _, e, h, n, nd⟩
  | drw => cases o
/-- a slot is stored; what it holds, if it is its own, stands at no other slot's place -/
theorem RepS.store (S : RepS K G F H σ δ) {i : Nat} {v : V} {s : SV} (r : RepSV K G.w F H v s)
    (fr : s.owned = true → ∀ p, v = .ref p → G.H0 p = none ∧ ∀ (j : Nat) t, j ≠ i → δ[j]? = some (some t) → t.owned = true → σ[j]? ≠ some (some (.ref p))) : RepS K G F H (σ.set i (some v)) (δ.set i (some s)) := by
  refine ⟨S.ext, by rw [List.length_set, List.length_set]; exact S.len, fun j t e => ?_, fun j t p e o e2 => ?_, fun j k t u p ne e1 e2 o1 o2 e3 e4 => ?_⟩
  · by_cases h : j = i
    · subst h
      have hl : j < δ.length := by
        by_cases hl : j < δ.length
        · exact hl
        · rw [List.getElem?_eq_none (by rw [List.length_set]; omega)] at e; cases e
      rw [List.getElem?_set_self hl] at e
      cases e
      exact ⟨v, List.getElem?_set_self (by rw [S.len]; exact hl), r⟩
    · rw [List.getElem?_set_ne (Ne.symm h)] at e ⊢
      exact S.slot j t e
  · by_cases h : j = i
    · subst h
      have hl : j < δ.length := by
        by_cases hl : j < δ.length
        · exact hl
        · rw [List.getElem?_eq_none (by rw [List.length_set]; omega)] at e; cases e
      rw [List.getElem?_set_self hl] at e
      rw [List.getElem?_set_self (by rw [S.len]; exact hl)] at e2
      cases e; cases e2
      exact (fr o p rfl).1
    · rw [List.getElem?_set_ne (Ne.symm h)] at e e2
      exact S.fresh j t p e o e2
  · by_cases h : j = i
    · subst h
      have hl : j < δ.length := by
        by_cases hl : j < δ.length
        · exact hl
        · rw [List.getElem?_eq_none (by rw [List.length_set]; omega)] at e1; cases e1
      rw [List.getElem?_set_self hl] at e1
      rw [List.getElem?_set_self (by rw [S.len]; exact hl)] at e3
      rw [List.getElem?_set_ne ne] at e2 e4
      cases e1; cases e3
      exact (fr o1 p rfl).2 k u (Ne.symm ne) e2 o2 e4
    · rw [List.getElem?_set_ne (Ne.symm h)] at e1 e3
      by_cases h' : k = i
      · subst h'
        have hl : k < δ.length := by
          by_cases hl : k < δ.length
          · exact hl
          · rw [List.getElem?_eq_none (by rw [List.length_set]; omega)] at e2; cases e2
        rw [List.getElem?_set_self hl] at e2
        rw [List.getElem?_set_self (by rw [S.len]; exact hl)] at e4
        cases e2; cases e4
        exact (fr o2 p rfl).2 j t ne e1 o1 e3
      · rw [List.getElem?_set_ne (Ne.symm h')] at e2 e4
        exact S.apart j k t u p ne e1 e2 o1 o2 e3 e4
theorem RepR.to_sv {w : Option Dw} {v : V} {r : R} {s : SV} (q : RepR K w H F1 H1 v r) (e : r.sv = some s) : RepSV K w F1 H1 v s ∧ (s.owned = true → ∀ p, v = .ref p → H p = none) := by
  cases r with
  | im d => cases e; exact ⟨q, fun z => nomatch z⟩
  | ol xs => cases e; obtain ⟨p, vs, rfl, h0, h, n, nd, l⟩ := q; exact ⟨⟨p, vs, rfl, h, n, nd, l⟩, fun _ p' e => by cases e; exact h0⟩
  | oK xs => cases e; obtain ⟨p, vs, rfl, h0, h, n, nd, l⟩ := q; exact ⟨⟨p, vs, rfl, h, n, nd, l⟩, fun _ p' e => by cases e; exact h0⟩
  | oT xs => cases e; obtain ⟨p, vs, rfl, h0, h, n, nd, l⟩ := q; exact ⟨⟨p, vs, rfl, h, n, nd, l⟩, fun _ p' e => by cases e; exact h0⟩
  | drw => cases e; exact ⟨q, fun z => nomatch z⟩
  | _ => cases e
/-- a result of an expression is stored -/
theorem RepS.put (S : RepS K G F H σ δ) (x : Ext G.w F H F1 H1) {i : Nat} {v : V} {r : R} {s : SV} (q : RepR K G.w H F1 H1 v r) (e : r.sv = some s) : RepS K G F1 H1 (σ.set i (some v)) (δ.set i (some s)) := by
  obtain ⟨rs, n⟩ := q.to_sv e
  refine (S.to x).store rs fun o p ep => ?_
  have hp := n o p ep
  refine ⟨S.ext.none hp, fun j t hj ej ot es => ?_⟩
  obtain ⟨v', e1, r'⟩ := S.slot j t ej
  rw [es] at e1
  cases e1
  obtain ⟨p', u, ep', h', _⟩ := r'.own_at ot
  cases ep'
  rw [hp] at h'; cases h'

/-! ### targets: data alone -/
abbrev WG := D → DEnv → (DEnv → Prop) → Prop
abbrev WGs := List D → DEnv → (DEnv → Prop) → Prop
/-- only the slots ts are stored -/
def Only (ts : List Nat) (σ σ' : L2.St) : Prop := σ'.length = σ.length ∧ ∀ j, j ∉ ts → σ'[j]? = σ[j]?
def dGT (K : PySem.W.Frag) (G : Gd) (ts : List Nat) (wg : WG) : TG := fun v σ H Q => ∃ F δ d P, RepS K G F H σ δ ∧ RepD K F v d ∧ wg d δ P ∧ ∀ σ' δ', Only ts σ σ' → RepS K G F H σ' δ' → P δ' → Q σ' H
def dGTs (K : PySem.W.Frag) (G : Gd) (ts : List Nat) (wg : WGs) : TGs := fun vs σ H Q => ∃ F δ ds P, RepS K G F H σ δ ∧ RepL K F vs ds ∧ wg ds δ P ∧ ∀ σ' δ', Only ts σ σ' → RepS K G F H σ' δ' → P δ' → Q σ' H
abbrev DG (X : Cx) (G : Gd) (ts : List Nat) (e : Expr) (wg : WG) : Prop := PG X e (dGT X.K G ts wg)
abbrev DGs (X : Cx) (G : Gd) (ts : List Nat) (es : List Expr) (wg : WGs) : Prop := PGs X es (dGTs X.K G ts wg)
theorem PG.imp {X : Cx} {e : Expr} {t t' : TG} (h : PG X e t) (i : ∀ v σ H Q, t' v σ H Q → t v σ H Q) : PG X e t' := ⟨fun pins s σ H v u Q I r q => h.run pins s σ H v u Q I r (i v σ H Q q)⟩
theorem PGs.imp {X : Cx} {e : List Expr} {t t' : TGs} (h : PGs X e t) (i : ∀ v σ H Q, t' v σ H Q → t v σ H Q) : PGs X e t' := ⟨fun pins s σ H v u Q I r q => h.run pins s σ H v u Q I r (i v σ H Q q)⟩
theorem Only.refl {ts : List Nat} : Only ts σ σ := ⟨rfl, fun _ _ => rfl⟩
theorem Only.one {i : Nat} {v : Option V} : Only [i] σ (σ.set i v) := ⟨List.length_set, fun j h => List.getElem?_set_ne (fun z => h (by rw [z]; exact List.mem_cons_self))⟩
theorem Only.app {ts us : List Nat} {σ1 σ2 : L2.St} (a : Only ts σ σ1) (b : Only us σ1 σ2) : Only (ts ++ us) σ σ2 :=
  ⟨b.1.trans a.1, fun j h => (b.2 j fun z => h (List.mem_append_right _ z)).trans (a.2 j fun z => h (List.mem_append_left _ z))⟩
def wgName (i : Nat) : WG := fun d δ P => P (δ.set i (some (.im d)))
def wgsNil : WGs := fun ds δ P => ds = [] ∧ P δ
def wgsCons (g : WG) (gs : WGs) : WGs := fun ds δ P => ∃ d r, ds = d :: r ∧ g d δ fun δ1 => gs r δ1 P
def wgTup (n : Nat) (gs : WGs) : WG := fun d δ P => ∃ ds, d = .tuple ds ∧ ds.length = n ∧ gs ds δ P
section
variable {X : Cx} {W : WX} {e : Expr} {es : List Expr} {pos : Pos}
theorem dg_name {i : Nat} (h : PG X e (gName i)) : DG X G [i] e (wgName i) := PG.imp h fun v σ H Q ⟨F, δ, d, P, S, r, p, k⟩ =>
  k _ _ Only.one (S.store (s := .im d) r fun z => nomatch z) p
theorem dgs_nil : DGs X G [] [] wgsNil := PGs.imp pgs_nil fun vs σ H Q ⟨F, δ, ds, P, S, r, ⟨e, p⟩, k⟩ => by
  subst e
  cases r
  exact ⟨rfl, k σ δ Only.refl S p⟩
theorem dgs_cons {ts us : List Nat} {g : WG} {gs : WGs} (h : DG X G ts e g) (hs : DGs X G us es gs) (ha : (assignEach (e :: es) X.env).map (·.2) = assign e X.env :: (assignEach es X.env).map (·.2) := by rfl) : DGs X G (ts ++ us) (e :: es) (wgsCons g gs) :=
  PGs.imp (pgs_cons h hs ha) fun vs σ H Q ⟨F, δ, ds, P, S, r, ⟨d, rr, e, p⟩, k⟩ => by
    subst e
    cases r with
    | cons a t => exact ⟨_, _, rfl, F, δ, d, _, S, a, p, fun σ1 δ1 o1 S1 p1 => ⟨F, δ1, rr, P, S1, t, p1, fun σ2 δ2 o2 S2 p2 => k σ2 δ2 (o1.app o2) S2 p2⟩⟩
theorem dg_tup {ts : List Nat} {gs : WGs} {n k : Nat} (hc : X.calm = true) (h : DGs X G ts es gs) (hn : (assignEach es X.env).length = n := by rfl) (hst : (assignEach es X.env).findIdx? (·.1) = none := by rfl) : DG X G ts (.Tuple es k pos) (wgTup n gs) :=
  PG.imp (pg_tup hc h hn hst) fun v σ H Q ⟨F, δ, d, P, S, r, ⟨ds, e, hl, p⟩, k⟩ => by
    subst e
    cases r with
    | tup ha l => exact ⟨_, _, rfl, .inl (.inl (S.ext.le _ _ ha)), by rw [RepL.length l]; exact hl, F, δ, ds, P, S, l, p, k⟩
end

/-! ### what is walked -/
abbrev WI := DEnv → (List D → Prop) → (DX → Prop) → Prop
/-- the walk of items while C holds -/
def DWalk (K : PySem.W.Frag) (w : Option Dw) (C : Hp → Hp → Prop) (J : It) (items : List D) : Prop :=
  ∀ F H, C F H → Ext w F H F H → (∀ i, i < items.length → J.go i H) ∧ J.stop items.length H ∧
    ∀ i x H' d, items[i]? = some d → J.yld i H x H' → ∃ F', Ext w F H F' H' ∧ RepD K F' x d
def StC (w : Option Dw) (st : Bool) (C : Hp → Hp → Prop) : Prop :=
  if st = true then ∀ F H F2 H2, C F H → Sub F F2 → Sub F2 H2 → C F2 H2 else ∀ F H F2 H2, C F H → Ext w F H F2 H2 → C F2 H2
theorem StC.ext {w : Option Dw} {st : Bool} {C : Hp → Hp → Prop} (s : StC w st C) (c : C F H) (x : Ext w F H F1 H1) : C F1 H1 := by
  unfold StC at s
  cases st with
  | true => exact s F H F1 H1 c x.fs x.le
  | false => exact s F H F1 H1 c x
def dTI (K : PySem.W.Frag) (G : Gd) (W : WX) (st : Bool) (wi : WI) : TI := fun σ H R => ∃ F δ P PX, RepS K G F H σ δ ∧ wi δ P PX ∧
  (∀ J C F' H' items, Ext G.w F H F' H' → C F' H' → DWalk K G.w C J items → StC G.w st C → P items → R J H') ∧ xok K G.w W F H σ PX
abbrev DI (X : Cx) (G : Gd) (W : WX) (st : Bool) (tg e : Expr) (wi : WI) : Prop := PI X tg e (dTI X.K G W st wi)
theorem PI.imp {X : Cx} {tg e : Expr} {t t' : TI} (h : PI X tg e t) (i : ∀ σ H Q, t' σ H Q → t σ H Q) : PI X tg e t' := ⟨fun pins s σ H Q I q => h.run pins s σ H Q I (i σ H Q q)⟩
section
variable {X : Cx} {W : WX} {st : Bool} {tg e : Expr} {we : WE'} {pos : Pos}
/-- a frozen list -/
def wiL (we : WE') : WI := fun δ P PX => we δ (fun r => ∃ xs, r.dat = some (.list xs) ∧ P xs) PX
/-- a list, a local's own too -/
def wiLb (we : WE') : WI := fun δ P PX => we δ (fun r => ∃ xs, r.lst = some xs ∧ P xs) PX
def wiT (we : WE') : WI := fun δ P PX => we δ (fun r => ∃ xs, r.tup = some xs ∧ P xs) PX
def signs (s : Str) : List D := s.cps.toList.map fun c => .str ⟨#[c]⟩
def wiS (we : WE') : WI := fun δ P PX => we δ (fun r => ∃ s, r = .im (.str s) ∧ P (signs s)) PX
theorem walkL {w : Option Dw} {a : Addr} {vs : List V} {xs : List D} {F0 : Hp} (l : RepL K F0 vs xs) : DWalk K w (fun F H => Sub F0 F ∧ SqL K H a vs) (Itl K a) xs := by
  intro F H ⟨s0, h⟩ x0
  refine ⟨fun i hi => ?_, ⟨vs, h, by rw [RepL.length l]; exact Nat.le_refl _⟩, fun i x H' d e y => ?_⟩
  · have hi' : i < vs.length := by rw [RepL.length l]; exact hi
    exact ⟨vs, vs[i], h, List.getElem?_eq_getElem hi'⟩
  · obtain ⟨rfl, y⟩ := y
    obtain ⟨v, e1, rv⟩ := RepL.get l e
    have e2 := y vs h
    rw [e1] at e2
    cases e2
    exact ⟨F, x0, RepD.mono s0 rv⟩
theorem walkT {w : Option Dw} {a : Addr} {vs : List V} {xs : List D} {F0 : Hp} (l : RepL K F0 vs xs) : DWalk K w (fun F H => Sub F0 F ∧ SqT K H a vs) (Itt K a) xs := by
  intro F H ⟨s0, h⟩ x0
  refine ⟨fun i hi => ?_, ⟨vs, h, by rw [RepL.length l]; exact Nat.le_refl _⟩, fun i x H' d e y => ?_⟩
  · have hi' : i < vs.length := by rw [RepL.length l]; exact hi
    exact ⟨vs, vs[i], h, List.getElem?_eq_getElem hi'⟩
  · obtain ⟨rfl, y⟩ := y
    obtain ⟨v, e1, rv⟩ := RepL.get l e
    have e2 := y vs h
    rw [e1] at e2
    cases e2
    exact ⟨F, x0, RepD.mono s0 rv⟩
theorem di_list (he : DE X G W e we) : DI X G W true tg e (wiL we) := PI.imp (pi_list he) fun σ H R ⟨F, δ, P, PX, S, p, k, xk⟩ => by
  refine ⟨F, δ, _, PX, S, p, fun v F1 H1 r x1 q ⟨xs, e, p1⟩ => ?_, xk⟩
  obtain ⟨F2, x2, _, rd⟩ := q.freeze x1 e
  cases rd with
  | lst h l =>
    rename_i a vs
    refine ⟨a, rfl, ⟨vs, .inl (.inl (x2.le _ _ h))⟩, k _ (fun F H => Sub F2 F ∧ F a = some (.lst vs) ∧ Sub F H) F2 H1 xs x2 ⟨Sub.refl, h, x2.le⟩ (fun F H ⟨s0, hr, le⟩ x0 => walkL l F H ⟨s0, .inl (.inl (le _ _ hr))⟩ x0) ?_ p1⟩
    exact fun F H F' H' ⟨s0, hr, le⟩ s1 s2 => ⟨s0.trans s1, s1 _ _ hr, s2⟩
theorem di_listb (he : DE X G W e we) : DI X G W false tg e (wiLb we) := PI.imp (pi_list he) fun σ H R ⟨F, δ, P, PX, S, p, k, xk⟩ => by
  refine ⟨F, δ, _, PX, S, p, fun v F1 H1 r x1 q ⟨xs, e, p1⟩ => ?_, xk⟩
  cases r with
  | im d =>
    cases d with
    | list ys =>
      have z : ys = xs := Option.some.inj e
      subst z
      cases q with
      | lst h l =>
        rename_i a vs
        exact ⟨a, rfl, ⟨vs, .inl (.inl (x1.le _ _ h))⟩, k _ (fun F H => Sub F1 F ∧ F a = some (.lst vs) ∧ Sub F H) F1 H1 ys x1 ⟨Sub.refl, h, x1.le⟩ (fun F H ⟨s0, hr, le⟩ x0 => walkL l F H ⟨s0, .inl (.inl (le _ _ hr))⟩ x0) (fun F H F' H' ⟨s0, hr, le⟩ y => ⟨s0.trans y.fs, y.fs _ _ hr, y.le⟩) p1⟩
    | _ => cases e
  | ol ys =>
    have z : ys = xs := Option.some.inj e
    subst z
    obtain ⟨a, vs, rfl, _, h, n, nd, l⟩ := q
    refine ⟨a, rfl, ⟨vs, SqL.of h⟩, k _ (fun F H => Sub F1 F ∧ H a = some (.lst vs) ∧ F a = none) F1 H1 ys x1 ⟨Sub.refl, h, n⟩ (fun F H ⟨s0, hr, _⟩ x0 => walkL l F H ⟨s0, SqL.of hr⟩ x0) (fun F H F' H' ⟨s0, hr, hn⟩ y => ?_) p1⟩
    obtain ⟨h', n'⟩ := y.keepN hr hn nd
    exact ⟨s0.trans y.fs, h', n'⟩
  | bl ys =>
    have z : ys = xs := Option.some.inj e
    subst z
    obtain ⟨a, vs, rfl, h, n, nd, l⟩ := q
    refine ⟨a, rfl, ⟨vs, SqL.of h⟩, k _ (fun F H => Sub F1 F ∧ H a = some (.lst vs) ∧ F a = none) F1 H1 ys x1 ⟨Sub.refl, h, n⟩ (fun F H ⟨s0, hr, _⟩ x0 => walkL l F H ⟨s0, SqL.of hr⟩ x0) (fun F H F' H' ⟨s0, hr, hn⟩ y => ?_) p1⟩
    obtain ⟨h', n'⟩ := y.keepN hr hn nd
    exact ⟨s0.trans y.fs, h', n'⟩
  | _ => cases e
theorem di_tup (he : DE X G W e we) : DI X G W true tg e (wiT we) := PI.imp (pi_tup he) fun σ H R ⟨F, δ, P, PX, S, p, k, xk⟩ => by
  refine ⟨F, δ, _, PX, S, p, fun v F1 H1 r x1 q ⟨xs, e, p1⟩ => ?_, xk⟩
  obtain ⟨a, vs, rfl, h, l⟩ := q.tuple x1.le e
  refine ⟨a, rfl, ⟨vs, .inl (.inl (x1.le _ _ h))⟩, k _ (fun F H => Sub F1 F ∧ F a = some (.tup vs) ∧ Sub F H) F1 H1 xs x1 ⟨Sub.refl, h, x1.le⟩ (fun F H ⟨s0, hr, le⟩ x0 => walkT l F H ⟨s0, .inl (.inl (le _ _ hr))⟩ x0) ?_ p1⟩
  exact fun F H F' H' ⟨s0, hr, le⟩ s1 s2 => ⟨s0.trans s1, s1 _ _ hr, s2⟩
theorem signs_len {s : Str} : (signs s).length = s.cps.size := by unfold signs; simp
theorem di_str (he : DE X G W e we) : DI X G W true tg e (wiS we) := PI.imp (pi_str he) fun σ H R ⟨F, δ, P, PX, S, p, k, xk⟩ => by
  refine ⟨F, δ, _, PX, S, p, fun v F1 H1 r x1 q ⟨s, e, p1⟩ => ?_, xk⟩
  subst e
  cases q
  refine ⟨s, rfl, k _ (fun _ _ => True) F1 H1 _ x1 trivial (fun F H _ x0 => ⟨fun i hi => ?_, ?_, fun i x H' d e y => ?_⟩) (fun _ _ _ _ _ _ _ => trivial) p1⟩
  · show i < s.cps.size
    rw [← signs_len]; exact hi
  · show s.cps.size ≤ (signs s).length
    rw [signs_len]; exact Nat.le_refl _
  · obtain ⟨rfl, c, hc, rfl⟩ := y
    unfold signs at e
    rw [List.getElem?_map] at e
    have hc' : s.cps.toList[i]? = some c := by simpa using hc
    rw [hc'] at e
    cases e
    exact ⟨F, x0, .str _⟩
end
end
end DW
set_option Elab.async false
set_option linter.all false
set_option maxRecDepth 100000
set_option maxHeartbeats 4000000
namespace DW
open PySem PySem.Spec L2

section
variable {K : PySem.W.Frag} {G : Gd} {F F1 F2 H H1 H2 : Hp} {σ : L2.St} {δ : DEnv}
variable {X : Cx} {W : WX} {st : Bool} {tg e a b c : Expr} {es rest : List Expr} {we wa wb wc : WE'} {wt wu : WT} {waa : WA} {pos p : Pos}

/-! ### ranges, enumerate -/
def intsD (lo : Int) (n : Nat) : List D := (List.range n).map fun i => .int (lo + (i : Nat))
theorem intsD_len {lo : Int} {n : Nat} : (intsD lo n).length = n := by unfold intsD; simp
theorem intsD_at {lo : Int} {n i : Nat} {d : D} (e : (intsD lo n)[i]? = some d) : d = .int (lo + (i : Nat)) := by
  unfold intsD at e
  rw [List.getElem?_map] at e
  cases q : (List.range n)[i]? with
  | none => rw [q] at e; cases e
  | some j =>
    rw [q] at e
    have : j = i := by
      have := List.getElem?_eq_some_iff.mp q
      obtain ⟨h, e2⟩ := this
      rw [List.getElem_range] at e2
      exact e2.symm
    subst this
    exact (Option.some.inj e).symm
theorem walkR {w : Option Dw} {lo : Int} {n : Nat} : DWalk K w (fun _ _ => True) (Itr lo n) (intsD lo n) := by
  intro F H _ x0
  refine ⟨fun i hi => by rw [intsD_len] at hi; exact hi, by show n ≤ _; rw [intsD_len]; exact Nat.le_refl _, fun i x H' d e y => ?_⟩
  obtain ⟨rfl, rfl⟩ := y
  rw [intsD_at e]
  exact ⟨F, x0, .int _⟩
def wiR1 (wa : WA) : WI := fun δ P PX => wa δ (fun rs => ∃ j : Int, rs = [.im (.int j)] ∧ -(2 ^ 62) ≤ j ∧ j < 2 ^ 62 ∧ P (intsD 0 j.toNat)) PX
def wiR2 (wa : WA) : WI := fun δ P PX => wa δ (fun rs => ∃ i j : Int, rs = [.im (.int i), .im (.int j)] ∧ (-(2 ^ 62) ≤ i ∧ i < 2 ^ 62 ∧ -(2 ^ 62) ≤ j ∧ j < 2 ^ 62) ∧ P (intsD i (j - i).toNat)) PX
theorem stT {w : Option Dw} {s : Bool} : StC w s fun _ _ => True := by
  unfold StC
  cases s with
  | true => exact fun _ _ _ _ _ _ _ => trivial
  | false => exact fun _ _ _ _ _ _ => trivial
theorem di_range1 (hg : Gl X "range") (hm : X.mg "range" = none) (ha : DA X G W [a] waa) (hs : starEach [a] X.env = [(false, eval a X.env)] := by rfl) : DI X G W st tg (.Call (.Name "range" p) [a] [] pos) (wiR1 waa) :=
  PI.imp (pi_range1 hg hm ha hs) fun σ H R ⟨F, δ, P, PX, S, q, k, xk⟩ => by
    refine ⟨F, δ, _, PX, S, q, fun vs F1 H1 rs x1 q1 ⟨j, e, h1, h2, p1⟩ => ?_, xk⟩
    subst e
    cases q1 with
    | cons r t =>
      cases t; cases r
      exact ⟨j, rfl, h1, h2, k _ _ F1 H1 _ x1 trivial walkR stT p1⟩
theorem di_range2 (hg : Gl X "range") (hm : X.mg "range" = none) (ha : DA X G W [a, b] waa) (hs : starEach [a, b] X.env = [(false, eval a X.env), (false, eval b X.env)] := by rfl) (hs2 : starEach [b] X.env = [(false, eval b X.env)] := by rfl) :
    DI X G W st tg (.Call (.Name "range" p) [a, b] [] pos) (wiR2 waa) :=
  PI.imp (pi_range2 hg hm ha hs hs2) fun σ H R ⟨F, δ, P, PX, S, q, k, xk⟩ => by
    refine ⟨F, δ, _, PX, S, q, fun vs F1 H1 rs x1 q1 ⟨i, j, e, h, p1⟩ => ?_, xk⟩
    subst e
    cases q1 with
    | cons r t =>
      cases t with
      | cons r2 t2 =>
        cases t2; cases r; cases r2
        exact ⟨i, j, rfl, h, k _ _ F1 H1 _ x1 trivial walkR stT p1⟩
/-- the pairs of enumerate -/
def enums (xs : List D) : List D := (List.range xs.length).map fun i => .tuple [.int (i : Nat), xs.getD i .none]
theorem enums_len {xs : List D} : (enums xs).length = xs.length := by unfold enums; simp
theorem enums_at {xs : List D} {i : Nat} {d : D} (e : (enums xs)[i]? = some d) : ∃ y, xs[i]? = some y ∧ d = .tuple [.int (i : Nat), y] := by
  unfold enums at e
  rw [List.getElem?_map] at e
  cases q : (List.range xs.length)[i]? with
  | none => rw [q] at e; cases e
  | some j =>
    rw [q] at e
    obtain ⟨h, e2⟩ := List.getElem?_eq_some_iff.mp q
    rw [List.getElem_range] at e2
    subst e2
    rw [List.length_range] at h
    refine ⟨xs[i], List.getElem?_eq_getElem h, ?_⟩
    rw [← Option.some.inj e]
    simp [List.getD_eq_getElem?_getD, h]
theorem walkE {w : Option Dw} {a : Addr} {vs : List V} {xs : List D} {F0 : Hp} (l : RepL K F0 vs xs) : DWalk K w (fun F H => Sub F0 F ∧ SqL K H a vs) (Ite K a) (enums xs) := by
  intro F H ⟨s0, h⟩ x0
  refine ⟨fun i hi => ?_, ⟨vs, h, by rw [RepL.length l, enums_len]; exact Nat.le_refl _⟩, fun i x H' d e y => ?_⟩
  · have hi' : i < vs.length := by rw [RepL.length l, ← enums_len]; exact hi
    exact ⟨vs, vs[i], h, List.getElem?_eq_getElem hi'⟩
  · obtain ⟨T, z, rfl, hT, rfl, y⟩ := y
    obtain ⟨dy, ey, rfl⟩ := enums_at e
    obtain ⟨v, e1, rv⟩ := RepL.get l ey
    have e2 := y vs h
    rw [e1] at e2
    cases e2
    have x1 := x0.laid (u := .tup [.int (i : Nat), z]) hT
    exact ⟨_, x1, .tup upd_same (.cons (.int _) (.cons (RepD.mono (s0.trans x1.fs) rv) .nil))⟩
def wiE (wa : WA) : WI := fun δ P PX => wa δ (fun rs => ∃ r xs, rs = [r] ∧ r.dat = some (.list xs) ∧ P (enums xs)) PX
theorem di_enum {elts : List Expr} {kk : Nat} {tpos : Pos} (hg : Gl X "enumerate") (hm : X.mg "enumerate" = none) (ha : DA X G W [e] waa) (hs : starEach [e] X.env = [(false, eval e X.env)] := by rfl) :
    DI X G W true (.Tuple elts kk tpos) (.Call (.Name "enumerate" p) [e] [] pos) (wiE waa) :=
  PI.imp (pi_enum hg hm ha hs) fun σ H R ⟨F, δ, P, PX, S, q, k, xk⟩ => by
    refine ⟨F, δ, _, PX, S, q, fun vs F1 H1 rs x1 q1 ⟨r, xs, e, ed, p1⟩ => ?_, xk⟩
    subst e
    cases q1 with
    | cons rr t =>
      cases t
      obtain ⟨F2, x2, _, rd⟩ := rr.freeze x1 ed
      cases rd with
      | lst h l =>
        rename_i a' vs'
        refine ⟨a', vs', rfl, .inl (.inl (x2.le _ _ h)), k _ (fun F H => Sub F2 F ∧ F a' = some (.lst vs') ∧ Sub F H) F2 H1 _ x2 ⟨Sub.refl, h, x2.le⟩ (fun F H ⟨s0, hr, le⟩ x0 => walkE l F H ⟨s0, .inl (.inl (le _ _ hr))⟩ x0) ?_ p1⟩
        exact fun F H F' H' ⟨s0, hr, le⟩ s1 s2 => ⟨s0.trans s1, s1 _ _ hr, s2⟩

/-! ### tests -/
def wtAnd (t u : WT) : WT := fun δ P PX => t δ (fun b => if b = true then u δ P PX else P false) PX
def wtOr (t u : WT) : WT := fun δ P PX => t δ (fun b => if b = true then P true else u δ P PX) PX
def wtNot (t : WT) : WT := fun δ P PX => t δ (fun b => P (!b)) PX
abbrev DW_ (X : Cx) (G : Gd) (W : WX) (e : Expr) (wt : WT) : Prop := PW X e (dTT X.K G W wt)
theorem PW.imp {X : Cx} {e : Expr} {t t' : TT} (h : PW X e t) (i : ∀ σ H Q, t' σ H Q → t σ H Q) : PW X e t' := ⟨fun wh pins s σ H Q I q => h.run wh pins s σ H Q I (i σ H Q q)⟩
theorem dtt_next {wt : WT} {P : Bool → Prop} {PX : DX → Prop} {Q : Bool → Hp → Prop} (S : RepS K G F H σ δ) (x : Ext G.w F H F1 H1) (xk : xok K G.w W F H σ PX) (h : wt δ P PX)
    (k : ∀ v F' H', Ext G.w F1 H1 F' H' → P v → Q v H') : dTT K G W wt σ H1 Q := ⟨F1, δ, P, PX, S.to x, h, k, xk.to x⟩
theorem dw_and1 (ha : DT X G W a wt) : DW_ X G W (.BoolOp .And [a] pos) wt := pw_and1 ha
theorem dw_or1 (ha : DT X G W a wt) : DW_ X G W (.BoolOp .Or [a] pos) wt := pw_or1 ha
theorem dw_and (ha : DT X G W a wt) (hb : DW_ X G W (.BoolOp .And (b :: rest) pos) wu) : DW_ X G W (.BoolOp .And (a :: b :: rest) pos) (wtAnd wt wu) :=
  PW.imp (pw_and ha hb) fun σ H Q ⟨F, δ, P, PX, S, q, k, xk⟩ => by
    refine ⟨F, δ, _, PX, S, q, fun c F1 H1 x1 p1 => ?_, xk⟩
    cases c with
    | true => exact dtt_next S x1 xk p1 fun v F' H' x2 p2 => k v F' H' (x1.trans x2) p2
    | false => exact k false F1 H1 x1 p1
theorem dw_or (ha : DT X G W a wt) (hb : DW_ X G W (.BoolOp .Or (b :: rest) pos) wu) : DW_ X G W (.BoolOp .Or (a :: b :: rest) pos) (wtOr wt wu) :=
  PW.imp (pw_or ha hb) fun σ H Q ⟨F, δ, P, PX, S, q, k, xk⟩ => by
    refine ⟨F, δ, _, PX, S, q, fun c F1 H1 x1 p1 => ?_, xk⟩
    cases c with
    | true => exact k true F1 H1 x1 p1
    | false => exact dtt_next S x1 xk p1 fun v F' H' x2 p2 => k v F' H' (x1.trans x2) p2
theorem dt_w (h : DW_ X G W e wt) : DT X G W e wt := h.pt
theorem dt_not (ha : DT X G W a wt) : DT X G W (.UnaryOp .Not a pos) (wtNot wt) :=
  PT.imp (pt_not ha) fun σ H Q ⟨F, δ, P, PX, S, q, k, xk⟩ => ⟨F, δ, _, PX, S, q, fun c F1 H1 x1 p1 => k (!c) F1 H1 x1 p1, xk⟩
/-- .. as values -/
def wVand (wa wb : WE') : WE' := fun δ P PX => wa δ (fun r => ∃ b, r = .im (.bool b) ∧ if b = true then wb δ P PX else P (.im (.bool false))) PX
def wVor (wa wb : WE') : WE' := fun δ P PX => wa δ (fun r => ∃ b, r = .im (.bool b) ∧ if b = true then P (.im (.bool true)) else wb δ P PX) PX
def wVnot (wa : WE') : WE' := fun δ P PX => wa δ (fun r => ∃ b, r = .im (.bool b) ∧ P (.im (.bool (!b)))) PX
theorem de_one {op} (h : DE X G W a wa) : DE X G W (.BoolOp op [a] pos) wa := pe_one h
theorem de_and (ha : DE X G W a wa) (hb : DE X G W (.BoolOp .And (b :: rest) pos) wb) : DE X G W (.BoolOp .And (a :: b :: rest) pos) (wVand wa wb) :=
  PE.imp (pe_and ha hb) fun σ H Q ⟨F, δ, P, PX, S, q, k, xk⟩ => by
    refine ⟨F, δ, _, PX, S, q, fun v F1 H1 r x1 q1 ⟨c, e, p1⟩ => ?_, xk⟩
    subst e
    cases q1
    refine ⟨c, rfl, ?_⟩
    cases c with
    | true => exact dT.next S x1 xk p1 fun v F' H' r x2 q2 p2 => k v F' H' r (x1.trans x2) (q2.back x1) p2
    | false => exact k (.bl false) F1 H1 (.im _) x1 (.bl _) p1
theorem de_or (ha : DE X G W a wa) (hb : DE X G W (.BoolOp .Or (b :: rest) pos) wb) : DE X G W (.BoolOp .Or (a :: b :: rest) pos) (wVor wa wb) :=
  PE.imp (pe_or ha hb) fun σ H Q ⟨F, δ, P, PX, S, q, k, xk⟩ => by
    refine ⟨F, δ, _, PX, S, q, fun v F1 H1 r x1 q1 ⟨c, e, p1⟩ => ?_, xk⟩
    subst e
    cases q1
    refine ⟨c, rfl, ?_⟩
    cases c with
    | true => exact k (.bl true) F1 H1 (.im _) x1 (.bl _) p1
    | false => exact dT.next S x1 xk p1 fun v F' H' r x2 q2 p2 => k v F' H' r (x1.trans x2) (q2.back x1) p2
theorem de_not (ha : DE X G W a wa) : DE X G W (.UnaryOp .Not a pos) (wVnot wa) :=
  PE.imp (pe_not ha) fun σ H Q ⟨F, δ, P, PX, S, q, k, xk⟩ => by
    refine ⟨F, δ, _, PX, S, q, fun v F1 H1 r x1 q1 ⟨c, e, p1⟩ => ?_, xk⟩
    subst e
    cases q1
    exact ⟨c, rfl, k _ F1 H1 (.im _) x1 (.bl _) p1⟩
def wIf (t : WT) (wa wb : WE') : WE' := fun δ P PX => t δ (fun b => if b = true then wa δ P PX else wb δ P PX) PX
theorem de_if (hc : DT X G W c wt) (ha : DE X G W a wa) (hb : DE X G W b wb) : DE X G W (.IfExp c a b pos) (wIf wt wa wb) :=
  PE.imp (pe_ifExp hc ha hb) fun σ H Q ⟨F, δ, P, PX, S, q, k, xk⟩ => by
    refine ⟨F, δ, _, PX, S, q, fun c F1 H1 x1 p1 => ?_, xk⟩
    cases c with
    | true => exact dT.next S x1 xk p1 fun v F' H' r x2 q2 p2 => k v F' H' r (x1.trans x2) (q2.back x1) p2
    | false => exact dT.next S x1 xk p1 fun v F' H' r x2 q2 p2 => k v F' H' r (x1.trans x2) (q2.back x1) p2
/-- a chain of two comparisons -/
def wChain (k1 k2 : KO) (wa wb wc : WE') : WE' := fun δ P PX => wa δ (fun r1 => wb δ (fun r2 => k1 r1 r2 fun r => ∃ b, r = .im (.bool b) ∧ if b = true then wc δ (fun r3 => k2 r2 r3 P) PX else P (.im (.bool false))) PX) PX
theorem chain_of {r r' : R2} {k1 k2 : KO} (h1 : OpD K r k1) (h2 : OpD K r' k2) {σ : L2.St} {H : Hp} {Q : VK} (h : dT K G W (wChain k1 k2 wa wb wc) σ H Q) : tChain r r' (dT K G W wa) (dT K G W wb) (dT K G W wc) σ H Q := by
  obtain ⟨F, δ, P, PX, S, q, k, xk⟩ := h
  refine ⟨F, δ, _, PX, S, q, fun x F1 H1 r1 x1 q1 p1 => ?_, xk⟩
  refine dT.next S x1 xk p1 fun y F2 H2 r2 x2 q2 p2 => ?_
  refine h1 G.w H F2 H2 x y r1 r2 _ _ x2.stay (q1.to x2) (q2.back x1) p2 fun v F3 H3 r3 x3 q3 ⟨b, e, p3⟩ => ?_
  subst e
  cases q3
  refine ⟨b, rfl, ?_⟩
  have x123 := (x1.trans x2).trans x3
  cases b with
  | false => exact k _ F3 H3 (.im _) x123 (.bl _) p3
  | true =>
    refine dT.next S x123 xk p3 fun z F4 H4 r4 x4 q4 p4 => ?_
    refine h2 G.w H F4 H4 y z r2 r4 P Q x4.stay ((q2.back x1).to (x3.trans x4)) (q4.back x123) p4 fun v F' H' r x5 q5 p5 => ?_
    exact k v F' H' r ((x123.trans x4).trans x5) (q5.back (x123.trans x4)) p5
theorem de_chain {op op' : CmpOp} {r r' : R2} {k1 k2 : KO} (ho : OpR X (compareOp op) r) (ho' : OpR X (compareOp op') r') (h1 : OpD X.K r k1) (h2 : OpD X.K r' k2) (ha : DE X G W a wa) (hb : DE X G W b wb) (hc : DE X G W c wc)
    (hm : lastMarks [op, op'] [b, c] = false := by with_unfolding_all rfl) : DE X G W (.Compare a [op, op'] [b, c] pos) (wChain k1 k2 wa wb wc) := PE.imp (pe_chain ho ho' ha hb hc hm) fun _ _ _ h => chain_of h1 h2 h
theorem dt_chain {op op' : CmpOp} {r r' : R2} {k1 k2 : KO} (ho : OpR X (compareOp op) r) (ho' : OpR X (compareOp op') r') (h1 : OpD X.K r k1) (h2 : OpD X.K r' k2) (ha : DE X G W a wa) (hb : DE X G W b wb) (hc : DE X G W c wc)
    (hm : lastMarks [op, op'] [b, c] = false := by with_unfolding_all rfl) : DT X G W (.Compare a [op, op'] [b, c] pos) (wB (wChain k1 k2 wa wb wc)) := PT.imp (pt_chain ho ho' ha hb hc hm) fun _ _ _ h => chain_of h1 h2 (tB_of h)
/-- by truth -/
def truR : R → Option Bool
  | .im .none => some false
  | .im (.bool b) => some b
  | .im (.int i) => some (i != 0)
  | .im (.list xs) => some (!xs.isEmpty)
  | .im (.tuple xs) => some (!xs.isEmpty)
  | .ol xs => some (!xs.isEmpty)
  | .bl xs => some (!xs.isEmpty)
  | _ => none
theorem RepL.empty {vs : List V} {ds : List D} (l : RepL K F vs ds) : vs.isEmpty = ds.isEmpty := by cases l <;> rfl
theorem RepR.tru {w : Option Dw} {v : V} {r : R} {bb : Bool} (le : Sub F1 H1) (q : RepR K w H F1 H1 v r) (e : truR r = some bb) : TruV K v H1 bb := by
  have lst : ∀ {xs : List D}, r.lst = some xs → bb = !xs.isEmpty → TruV K v H1 bb := fun {xs} e1 e2 => by
    obtain ⟨a, us, rfl, ha, la⟩ := q.list le e1
    exact .inl ⟨us, ha, by rw [RepL.empty la]; exact e2⟩
  cases r with
  | im d =>
    cases d with
    | none => cases q; exact (Option.some.inj e).symm
    | bool b => cases q; exact (Option.some.inj e).symm
    | int i => cases q; exact (Option.some.inj e).symm
    | list xs => exact lst rfl (Option.some.inj e).symm
    | tuple xs =>
      obtain ⟨a, us, rfl, ha, la⟩ := q.tuple le (xs := xs) rfl
      exact .inr (.inl ⟨us, .inl (.inl (le _ _ ha)), by rw [RepL.empty la]; exact (Option.some.inj e).symm⟩)
    | _ => cases e
  | ol xs => exact lst rfl (Option.some.inj e).symm
  | bl xs => exact lst rfl (Option.some.inj e).symm
  | _ => cases e
def wTru (we : WE') : WT := fun δ P PX => we δ (fun r => ∃ b, truR r = some b ∧ P b) PX
theorem dt_tru (ha : DE X G W a wa) (he : ∀ whole, isTrue a X.env whole = (do let v ← whole; standAt a.pos; holding [v] (truthy v)) := by intro _; rfl) : DT X G W a (wTru wa) :=
  PT.imp (pt_truth ha he) fun σ H Q ⟨F, δ, P, PX, S, q, k, xk⟩ => by
    refine ⟨F, δ, _, PX, S, q, fun v F1 H1 r x1 q1 ⟨b, e, p1⟩ => ⟨b, q1.tru x1.le e, k b F1 H1 x1 p1⟩, xk⟩
end
end DW
set_option Elab.async false
set_option linter.all false
set_option maxRecDepth 100000
set_option maxHeartbeats 4000000
namespace DW
open PySem PySem.Spec L2

abbrev wTrue : WX := fun _ _ _ _ => True
section
variable {K : PySem.W.Frag} {w : Option Dw} {G : Gd} {F F1 F2 H H1 H2 : Hp} {σ : L2.St} {δ : DEnv}
variable {X : Cx} {W : WX} {st : Bool} {tg iter e a b c elt : Expr} {es rest : List Expr} {we wa wb wc : WE'} {wt wu : WT} {waa : WA} {pos p : Pos}
theorem xok_true {PX : DX → Prop} : xok K w wTrue F H σ PX := fun _ _ _ _ _ _ _ _ => trivial

/-! ### forgetting slots -/
def wipeD (δ : DEnv) : List Nat → DEnv
  | [] => δ
  | v :: vs => (wipeD δ vs).set v none
theorem RepS.drop (S : RepS K G F H σ δ) (i : Nat) : RepS K G F H (σ.set i none) (δ.set i none) := by
  refine ⟨S.ext, by rw [List.length_set, List.length_set]; exact S.len, fun j t e => ?_, fun j t p e o e2 => ?_, fun j k t u p ne e1 e2 o1 o2 e3 e4 => ?_⟩
  · by_cases h : j = i
    · subst h
      rw [List.getElem?_set] at e
      split at e
      · split at e <;> cases e
      · exact absurd rfl (by assumption)
    · rw [List.getElem?_set_ne (Ne.symm h)] at e ⊢
      exact S.slot j t e
  · by_cases h : j = i
    · subst h
      rw [List.getElem?_set] at e
      split at e
      · split at e <;> cases e
      · exact absurd rfl (by assumption)
    · rw [List.getElem?_set_ne (Ne.symm h)] at e e2
      exact S.fresh j t p e o e2
  · by_cases h : j = i
    · subst h
      rw [List.getElem?_set] at e1
      split at e1
      · split at e1 <;> cases e1
      · exact absurd rfl (by assumption)
    · by_cases h' : k = i
      · subst h'
        rw [List.getElem?_set] at e2
        split at e2
        · split at e2 <;> cases e2
        · exact absurd rfl (by assumption)
      · rw [List.getElem?_set_ne (Ne.symm h)] at e1 e3
        rw [List.getElem?_set_ne (Ne.symm h')] at e2 e4
        exact S.apart j k t u p ne e1 e2 o1 o2 e3 e4
theorem RepS.wipe (S : RepS K G F H σ δ) : ∀ vs : List Nat, RepS K G F H (L2.wipe σ vs) (wipeD δ vs)
  | [] => S
  | v :: vs => (RepS.wipe S vs).drop v
theorem wipe_in {σ : L2.St} {j : Nat} : ∀ {vs : List Nat}, j ∈ vs → j < σ.length → (L2.wipe σ vs)[j]? = some none
  | v :: vs, hj, hl => by
    unfold L2.wipe
    by_cases h : v = j
    · subst h
      exact List.getElem?_set_self (by rw [wipe_length]; exact hl)
    · rw [List.getElem?_set_ne h]
      exact wipe_in ((List.mem_cons.mp hj).resolve_left (Ne.symm h)) hl
theorem wipe_only {ts vs : List Nat} {σ σ2 : L2.St} (o : Only ts (L2.wipe σ vs) σ2) (h : ∀ t ∈ ts, t ∈ vs) : L2.wipe σ2 vs = L2.wipe σ vs := by
  apply List.ext_getElem?
  intro j
  have hl : σ2.length = σ.length := by rw [o.1, wipe_length]
  by_cases hj : j ∈ vs
  · by_cases hz : j < σ.length
    · rw [wipe_in hj hz, wipe_in hj (by rw [hl]; exact hz)]
    · rw [List.getElem?_eq_none (by rw [wipe_length]; omega), List.getElem?_eq_none (by rw [wipe_length]; omega)]
  · rw [wipe_out hj, o.2 j fun z => hj (h j z)]

/-! ### list comprehensions -/
def lcGo (wg : WG) (wt : WT) (we : WE') (P : List D → Prop) (δ0 : DEnv) : List D → List D → Prop
  | [], acc => P acc
  | d :: ds, acc => wg d δ0 fun δ1 => wt δ1 (fun b => if b = true then we δ1 (fun r => ∃ d', r.dat = some d' ∧ acc.length < sizeLine ∧ lcGo wg wt we P δ0 ds (acc ++ [d'])) (fun _ => False) else lcGo wg wt we P δ0 ds acc) (fun _ => False)
def wLc (wi : WI) (wg : WG) (wt : WT) (we : WE') (vs : List Nat) : WE' := fun δ P PX => wi δ (fun items => lcGo wg wt we (fun acc => P (.ol acc)) (wipeD δ vs) items []) PX
def wtYes : WT := fun _ P _ => P true
/-- a list of one's own is written -/
theorem Ext.write (x : Ext w F H F1 H1) {p : Addr} {u u' : HO} (h0 : H p = Option.none) (h : H1 p = some u') (n : F1 p = Option.none) (nd : ∀ d, w = some d → d.a ≠ p) : Ext w F H F1 (upd H1 p u) where
  fs := x.fs
  le := fun a o e => by rw [upd_ne (fun z => by subst z; rw [n] at e; cases e)]; exact x.le a o e
  hs := fun a o e d => by rw [upd_ne (fun z => by subst z; rw [h0] at e; cases e)]; exact x.hs a o e d
  new := x.new
  dr := fun d e => by
    have o := x.dr d e
    obtain ⟨i, r, c, z, q⟩ := o.at_
    exact ⟨o.free, ⟨i, r, c, by rw [upd_ne (nd d e)]; exact z, q⟩, o.copy, o.few, o.big⟩
theorem lc_of {wi : WI} {wg : WG} {ts vs : List Nat} {tt : TT} {te : TE} (hts : ∀ t ∈ ts, t ∈ vs) (ht : ∀ σ H Q, dTT K G wTrue wt σ H Q → tt σ H Q) (he : ∀ σ H Q, dT K G wTrue we σ H Q → te σ H Q)
    {σ : L2.St} {H : Hp} {Q : VK} (h : dT K G W (wLc wi wg wt we vs) σ H Q) : tLc (dTI K G W st wi) (dGT K G ts wg) tt te vs σ H Q := by
  obtain ⟨F, δ, P, PX, S, q, k, xk⟩ := h
  refine ⟨F, δ, _, PX, S, q, fun J C F1 H1 items x1 c1 dw stc p1 => fun D hD => ?_, xk⟩
  have x1' : Ext G.w F1 H1 F1 (upd H1 D (.lst [])) := x1.stay.own hD
  have nd : ∀ d, G.w = some d → d.a ≠ D := fun d e z => by
    obtain ⟨i, r, c, h, _⟩ := (x1.dr d e).at_
    rw [z, hD] at h; cases h
  refine ⟨fun i m H => m = items.length - i ∧ i ≤ items.length ∧ ∃ F avs acc, Ext G.w F1 H1 F H ∧ H D = some (.lst avs) ∧ F D = none ∧ RepL K F avs acc ∧ lcGo wg wt we (fun acc => P (.ol acc)) (wipeD δ vs) (items.drop i) acc,
    ⟨_, rfl, Nat.zero_le _, F1, [], [], x1', upd_same, x1.le.none hD, .nil, p1⟩, ?_⟩
  rintro i m H ⟨rfl, hi, F, avs, acc, x2, hDl, hDf, la, go⟩
  obtain ⟨w1, w2, w3⟩ := dw F H (stc.ext c1 x2) x2.stay
  by_cases hlt : i < items.length
  · refine .inr ⟨w1 i hlt, fun H' => i + 1 ≤ items.length ∧ ∃ F avs acc, Ext G.w F1 H1 F H' ∧ H' D = some (.lst avs) ∧ F D = none ∧ RepL K F avs acc ∧ lcGo wg wt we (fun acc => P (.ol acc)) (wipeD δ vs) (items.drop (i + 1)) acc,
      fun H' n => ⟨items.length - (i + 1), by omega, rfl, n⟩, fun x H' y => ?_⟩
    have hd : items[i]? = some items[i] := List.getElem?_eq_getElem hlt
    have hdrop : items.drop i = items[i] :: items.drop (i + 1) := List.drop_eq_getElem_cons hlt
    rw [hdrop] at go
    obtain ⟨F', x3, rd⟩ := w3 i x H' _ hd y
    have S' : RepS K G F' H' (L2.wipe σ vs) (wipeD δ vs) := (S.to (x1.trans (x2.trans x3))).wipe vs
    refine ⟨F', wipeD δ vs, _, _, S', rd, go, fun σ2 δ2 o2 S2 p2 => ⟨wipe_only o2 hts, ?_⟩⟩
    refine ht _ _ _ ⟨F', δ2, _, _, S2, p2, fun b F3 H3 x4 p3 => ?_, xok_true⟩
    cases b with
    | false =>
      rw [if_neg Bool.false_ne_true] at p3 ⊢
      have x5 := x3.trans x4
      obtain ⟨h', n'⟩ := x5.keepN hDl hDf nd
      exact ⟨hlt, F3, avs, acc, x2.trans x5, h', n', RepL.mono x5.fs la, p3⟩
    | true =>
      rw [if_pos rfl] at p3 ⊢
      refine he _ _ _ ⟨F3, δ2, _, _, S2.to x4, p3, fun yv F4 H4 r x5 q5 ⟨d', er, hz, p4⟩ => ?_, xok_true⟩
      obtain ⟨F5, x6, _, rd'⟩ := q5.freeze x5 er
      have x7 := (x3.trans x4).trans x6
      obtain ⟨h', n'⟩ := x7.keepN hDl hDf nd
      refine ⟨avs, h', by rw [RepL.length la]; exact hz, hlt, F5, avs ++ [yv], acc ++ [d'], (x2.trans x7).write hD h' n' nd, upd_same, n', RepL.append (RepL.mono x7.fs la) (.cons rd' .nil), p4⟩
  · have hn : i = items.length := by omega
    subst hn
    rw [List.drop_length] at go
    refine .inl ⟨w2, k _ F H (.ol acc) (x1.trans x2) ⟨D, avs, rfl, x1.none hD, hDl, hDf, nd, la⟩ go⟩
theorem de_lc {scope : Scope} {own : List (Str × Nat)} {wi : WI} {wg : WG} {ts : List Nat} (hc : X.calm = true) (hN : X.N.Nodup) (hi : DI X G W st tg iter wi) (ok : BlkOk X.N X.env.scope scope own)
    (hg : ∀ (s : Shared) (H : Hp) (C : Addr) (cl : List (Str × Addr)) (fp : List Addr), DG (X.blk s H scope (compEnvC scope cl C X.env) fp) G ts tg wg)
    (he : ∀ (s : Shared) (H : Hp) (C : Addr) (cl : List (Str × Addr)) (fp : List Addr), DE (X.blk s H scope (compEnvC scope cl C X.env) fp) G wTrue elt we)
    (hts : ∀ t ∈ ts, t ∈ own.map (·.2) := by decide) (hs : ∀ x, foldedSetIterable iter X.env x = pure x := by intro _; rfl) : DE X G W (.ListComp elt [⟨tg, iter, [], 0⟩] scope pos) (wLc wi wg wtYes we (own.map (·.2))) :=
  PE.imp (pe_lc hc hN hi ok hg (fun _ _ _ _ _ => pts_nil) he hs) fun σ H Q h => lc_of hts (fun σ H Q ⟨F, δ, P, PX, S, q, k, xk⟩ => k true F H S.ext.stay q) (fun _ _ _ h => h) h
theorem de_lcIf {scope : Scope} {own : List (Str × Nat)} {wi : WI} {wg : WG} {ts : List Nat} (hc : X.calm = true) (hN : X.N.Nodup) (hi : DI X G W st tg iter wi) (ok : BlkOk X.N X.env.scope scope own)
    (hg : ∀ (s : Shared) (H : Hp) (C : Addr) (cl : List (Str × Addr)) (fp : List Addr), DG (X.blk s H scope (compEnvC scope cl C X.env) fp) G ts tg wg)
    (ht : ∀ (s : Shared) (H : Hp) (C : Addr) (cl : List (Str × Addr)) (fp : List Addr), DT (X.blk s H scope (compEnvC scope cl C X.env) fp) G wTrue c wt)
    (he : ∀ (s : Shared) (H : Hp) (C : Addr) (cl : List (Str × Addr)) (fp : List Addr), DE (X.blk s H scope (compEnvC scope cl C X.env) fp) G wTrue elt we)
    (hts : ∀ t ∈ ts, t ∈ own.map (·.2) := by decide) (hs : ∀ x, foldedSetIterable iter X.env x = pure x := by intro _; rfl) : DE X G W (.ListComp elt [⟨tg, iter, [c], 0⟩] scope pos) (wLc wi wg wt we (own.map (·.2))) :=
  PE.imp (pe_lc hc hN hi ok hg (fun s H C cl fp => pts_one (ht s H C cl fp)) he hs) fun σ H Q h => lc_of hts (fun _ _ _ h => h) (fun _ _ _ h => h) h

/-! ### statements -/
structure DEnds where
  nx : DEnv → Prop
  rt : R → Prop
  bk : DEnv → Prop
  ct : DEnv → Prop
  ex : DX → Prop
abbrev WS := DEnds → DEnv → Prop
structure EndsOk (K : PySem.W.Frag) (G : Gd) (W : WX) (F : Hp) (E : DEnds) (D : Ends) : Prop where
  nx : ∀ σ' F' H' δ', Sub F F' → RepS K G F' H' σ' δ' → E.nx δ' → D.nx σ' H'
  bk : ∀ σ' F' H' δ', Sub F F' → RepS K G F' H' σ' δ' → E.bk δ' → D.bk σ' H'
  ct : ∀ σ' F' H' δ', Sub F F' → RepS K G F' H' σ' δ' → E.ct δ' → D.ct σ' H'
  rt : ∀ v F' H' r, Ext G.w G.F0 G.H0 F' H' → RepR K G.w G.H0 F' H' v r → E.rt r → D.rt v H'
  ex : ∀ x F' H' cls d σ', Ext G.w G.F0 G.H0 F' H' → RepX K F' H' x cls d → E.ex x → W cls d σ' H'
def dTS (K : PySem.W.Frag) (G : Gd) (W : WX) (ws : WS) : TS := fun D σ H => ∃ F δ E, RepS K G F H σ δ ∧ ws E δ ∧ EndsOk K G W F E D
abbrev DS (X : Cx) (G : Gd) (W : WX) (s : Stmt) (ws : WS) : Prop := PS X s (dTS X.K G W ws)
abbrev DSs (X : Cx) (G : Gd) (W : WX) (s : List Stmt) (ws : WS) : Prop := PSs X s (dTS X.K G W ws)
theorem PS.imp {X : Cx} {e : Stmt} {t t' : TS} (h : PS X e t) (i : ∀ σ H Q, t' σ H Q → t σ H Q) : PS X e t' := ⟨fun pins s σ H Q I q => h.run pins s σ H Q I (i Q σ H q)⟩
theorem PSs.imp {X : Cx} {e : List Stmt} {t t' : TS} (h : PSs X e t) (i : ∀ σ H Q, t' σ H Q → t σ H Q) : PSs X e t' := ⟨fun pins s σ H Q I q => h.run pins s σ H Q I (i Q σ H q)⟩
theorem EndsOk.sub {E : DEnds} {D : Ends} (k : EndsOk K G W F E D) (s : Sub F F1) : EndsOk K G W F1 E D :=
  ⟨fun σ' F' H' δ' z => k.nx σ' F' H' δ' (s.trans z), fun σ' F' H' δ' z => k.bk σ' F' H' δ' (s.trans z), fun σ' F' H' δ' z => k.ct σ' F' H' δ' (s.trans z), k.rt, k.ex⟩
theorem EndsOk.xok {E : DEnds} {D : Ends} (k : EndsOk K G W F1 E D) (S : RepS K G F H σ δ) : xok K G.w W F H σ E.ex := fun x F' H' cls d y r p => k.ex x F' H' cls d σ (S.ext.trans y) r p
def sNext : WS := fun E δ => E.nx δ
def sSeq (s t : WS) : WS := fun E δ => s { E with nx := fun δ' => t E δ' } δ
section
variable {s : Stmt} {ss body orelse : List Stmt} {ws wss : WS}
theorem ds_nil : DSs X G W [] sNext := PSs.imp pss_nil fun D σ H ⟨F, δ, E, S, p, k⟩ => k.nx σ F H δ Sub.refl S p
theorem ds_cons (h : DS X G W s ws) (hs : DSs X G W ss wss) : DSs X G W (s :: ss) (sSeq ws wss) := PSs.imp (pss_cons h hs) fun D σ H ⟨F, δ, E, S, p, k⟩ =>
  ⟨F, δ, _, S, p, fun σ' F' H' δ' z S' p' => ⟨F', δ', E, S', p', k.sub z⟩, k.bk, k.ct, k.rt, k.ex⟩
theorem ds_one (h : DS X G W s ws) : DSs X G W [s] ws := pss_one h
theorem ds_pass : DS X G W (.Pass pos) sNext := PS.imp ps_pass fun D σ H ⟨F, δ, E, S, p, k⟩ => k.nx σ F H δ Sub.refl S p
def sBreak : WS := fun E δ => E.bk δ
def sCont : WS := fun E δ => E.ct δ
theorem ds_break : DS X G W (.Break pos) sBreak := PS.imp ps_break fun D σ H ⟨F, δ, E, S, p, k⟩ => k.bk σ F H δ Sub.refl S p
theorem ds_continue : DS X G W (.Continue pos) sCont := PS.imp ps_continue fun D σ H ⟨F, δ, E, S, p, k⟩ => k.ct σ F H δ Sub.refl S p
def sIf (t : WT) (s1 s2 : WS) : WS := fun E δ => t δ (fun b => if b = true then s1 E δ else s2 E δ) E.ex
theorem ds_if (hc : DT X G W c wt) (ha : DSs X G W body ws) (hb : DSs X G W orelse wss) : DS X G W (.If c body orelse pos) (sIf wt ws wss) := PS.imp (ps_if hc ha hb) fun D σ H ⟨F, δ, E, S, p, k⟩ => by
  refine ⟨F, δ, _, _, S, p, fun b F1 H1 x1 p1 => ?_, k.xok S⟩
  cases b with
  | true => exact ⟨F1, δ, E, S.to x1, p1, k.sub x1.fs⟩
  | false => exact ⟨F1, δ, E, S.to x1, p1, k.sub x1.fs⟩
/-- x = e -/
def sSet (i : Nat) (we : WE') : WS := fun E δ => we δ (fun r => ∃ v, r.sv = some v ∧ E.nx (δ.set i (some v))) E.ex
theorem set_of {i : Nat} {D : Ends} {σ : L2.St} {H : Hp} (h : dTS K G W (sSet i we) D σ H) : tAsg (dT K G W we) (gName i) D σ H := by
  obtain ⟨F, δ, E, S, p, k⟩ := h
  exact ⟨F, δ, _, _, S, p, fun v F1 H1 r x1 q ⟨s, e, p1⟩ => k.nx _ F1 H1 _ x1.fs (S.put x1 q e) p1, k.xok S⟩
theorem ds_set {i : Nat} (h : PS X s (tAsg (dT X.K G W we) (gName i))) : DS X G W s (sSet i we) := PS.imp h fun D σ H h => set_of h
/-- x = y, y's own list goes over to x -/
def sMove (i j : Nat) : WS := fun E δ => ∃ s, δ[j]? = some (some s) ∧ s.owned = true ∧ i ≠ j ∧ i < δ.length ∧ E.nx ((δ.set j none).set i (some s))
/-- a target of data -/
def sAsg (we : WE') (wg : WG) : WS := fun E δ => we δ (fun r => ∃ d, r.dat = some d ∧ wg d δ E.nx) E.ex
theorem ds_asg {wg : WG} {ts : List Nat} (h : PS X s (tAsg (dT X.K G W we) (dGT X.K G ts wg))) : DS X G W s (sAsg we wg) := PS.imp h fun D σ H ⟨F, δ, E, S, p, k⟩ => by
  refine ⟨F, δ, _, _, S, p, fun v F1 H1 r x1 q ⟨d, e, p1⟩ => ?_, k.xok S⟩
  obtain ⟨F2, x2, _, rd⟩ := q.freeze x1 e
  exact ⟨F2, δ, d, _, S.to x2, rd, p1, fun σ' δ' _ S' p' => k.nx σ' F2 H1 δ' x2.fs S' p'⟩
/-- x op= e by an operation -/
def sAug (i : Nat) (kk : KO) (we : WE') : WS := fun E δ => ∃ s0, δ[i]? = some (some s0) ∧ we δ (fun r => kk s0.read r fun r' => ∃ v, r'.sv = some v ∧ E.nx (δ.set i (some v))) E.ex
theorem ds_aug {i : Nat} {r : R2} {kk : KO} (hk : OpD X.K r kk) (h : PS X s (tAug i (dT X.K G W we) r)) : DS X G W s (sAug i kk we) := PS.imp h fun D σ H ⟨F, δ, E, S, ⟨s0, e0, p⟩, k⟩ => by
  obtain ⟨v0, e1, r0⟩ := S.slot i s0 e0
  refine ⟨v0, e1, F, δ, _, _, S, p, fun v F1 H1 r1 x1 q p1 => ?_, k.xok S⟩
  refine hk G.w H F1 H1 v0 v _ r1 _ _ x1.stay (r0.read.to x1) q p1 fun z F2 H2 r2 x2 q2 ⟨sv, e2, p2⟩ => ?_
  exact k.nx _ F2 H2 _ (x1.trans x2).fs (S.put (x1.trans x2) (q2.back x1) e2) p2
/-- an expression is dropped -/
def sDrop (we : WE') : WS := fun E δ => we δ (fun _ => E.nx δ) E.ex
theorem ds_expr (h : PS X s (tDrop (dT X.K G W we))) : DS X G W s (sDrop we) := PS.imp h fun D σ H ⟨F, δ, E, S, p, k⟩ =>
  ⟨F, δ, _, _, S, p, fun v F1 H1 r x1 q p1 => k.nx σ F1 H1 δ x1.fs (S.to x1) p1, k.xok S⟩
/-- return e: what is borrowed is not handed back -/
def R.given : R → Bool
  | .bl _ => false
  | .bK _ => false
  | .bT _ => false
  | _ => true
def sRet (we : WE') : WS := fun E δ => we δ E.rt E.ex
theorem ds_ret (h : PS X s (tRet (dT X.K G W we))) : DS X G W s (sRet we) := PS.imp h fun D σ H ⟨F, δ, E, S, p, k⟩ =>
  ⟨F, δ, _, _, S, p, fun v F1 H1 r x1 q p1 => k.rt v F1 H1 r (S.ext.trans x1) (q.back S.ext) p1, k.xok S⟩
/-- return x, x a local's own list, dict -/
def sRetV (i : Nat) : WS := fun E δ => ∃ s, δ[i]? = some (some s) ∧ E.rt (match s with | .im d => .im d | .ol xs => .ol xs | .oK kvs => .oK kvs | .oT kvs => .oT kvs | .drw => .drw)
theorem ds_retV {i : Nat} (h : PS X s (tRet (tVar i))) : DS X G W s (sRetV i) := PS.imp h fun D σ H ⟨F, δ, E, S, ⟨s0, e0, p⟩, k⟩ => by
  obtain ⟨v0, e1, r0⟩ := S.slot i s0 e0
  refine ⟨v0, e1, k.rt v0 F H _ S.ext ?_ p⟩
  cases s0 with
  | im d => exact r0
  | ol xs => obtain ⟨p, vs, rfl, h, n, nd, l⟩ := r0; exact ⟨p, vs, rfl, S.fresh i _ p e0 rfl e1, h, n, nd, l⟩
  | oK xs => obtain ⟨p, vs, rfl, h, n, nd, l⟩ := r0; exact ⟨p, vs, rfl, S.fresh i _ p e0 rfl e1, h, n, nd, l⟩
  | oT xs => obtain ⟨p, vs, rfl, h, n, nd, l⟩ := r0; exact ⟨p, vs, rfl, S.fresh i _ p e0 rfl e1, h, n, nd, l⟩
  | drw => exact r0
/-- a ghost step: a local's own list is frozen ahead of a statement -/
def sFreeze (i : Nat) (ws : WS) : WS := fun E δ => ∃ xs, δ[i]? = some (some (.ol xs)) ∧ ws E (δ.set i (some (.im (.list xs))))
theorem RepS.freeze {i : Nat} {xs : List D} (S : RepS K G F H σ δ) (e : δ[i]? = some (some (.ol xs))) : ∃ F2, Sub F F2 ∧ RepS K G F2 H σ (δ.set i (some (.im (.list xs)))) := by
  obtain ⟨v0, e1, p, vs, rfl, h, n, nd, l⟩ := S.slot i _ e
  have h0 := S.fresh i _ p e rfl e1
  refine ⟨upd F p (.lst vs), upd_grow n, S.ext.freeze h0 h n nd, by rw [List.length_set]; exact S.len, fun j t ej => ?_, fun j t p' ej o e2 => ?_, fun j k t u p' ne ej ek o1 o2 e3 e4 => ?_⟩
  · by_cases hj : j = i
    · subst hj
      have hl : j < δ.length := (List.getElem?_eq_some_iff.mp e).1
      rw [List.getElem?_set_self hl] at ej
      cases ej
      exact ⟨_, e1, .lst upd_same (RepL.mono (upd_grow n) l)⟩
    · rw [List.getElem?_set_ne (Ne.symm hj)] at ej
      obtain ⟨v, e2, r⟩ := S.slot j t ej
      refine ⟨v, e2, ?_⟩
      have off : ∀ q, v = .ref q → t.owned = true → q ≠ p := fun q eq o z => by
        subst z
        rw [eq] at e2
        exact S.apart j i t _ q hj ej e o rfl e2 e1
      cases t with
      | im d => exact RepD.mono (upd_grow n) r
      | ol ys => obtain ⟨q, us, rfl, hq, nq, ndq, lq⟩ := r; exact ⟨q, us, rfl, hq, by rw [upd_ne (off q rfl rfl)]; exact nq, ndq, RepL.mono (upd_grow n) lq⟩
      | oK ys => obtain ⟨q, us, rfl, hq, nq, ndq, lq⟩ := r; exact ⟨q, us, rfl, hq, by rw [upd_ne (off q rfl rfl)]; exact nq, ndq, lq.mono (upd_grow n)⟩
      | oT ys => obtain ⟨q, us, rfl, hq, nq, ndq, lq⟩ := r; exact ⟨q, us, rfl, hq, by rw [upd_ne (off q rfl rfl)]; exact nq, ndq, lq.mono (upd_grow n)⟩
      | drw => exact r
  · by_cases hj : j = i
    · subst hj
      have hl : j < δ.length := (List.getElem?_eq_some_iff.mp e).1
      rw [List.getElem?_set_self hl] at ej
      cases ej; cases o
    · rw [List.getElem?_set_ne (Ne.symm hj)] at ej
      exact S.fresh j t p' ej o e2
  · by_cases hj : j = i
    · subst hj
      have hl : j < δ.length := (List.getElem?_eq_some_iff.mp e).1
      rw [List.getElem?_set_self hl] at ej
      cases ej; cases o1
    · by_cases hk : k = i
      · subst hk
        have hl : k < δ.length := (List.getElem?_eq_some_iff.mp e).1
        rw [List.getElem?_set_self hl] at ek
        cases ek; cases o2
      · rw [List.getElem?_set_ne (Ne.symm hj)] at ej
        rw [List.getElem?_set_ne (Ne.symm hk)] at ek
        exact S.apart j k t u p' ne ej ek o1 o2 e3 e4
theorem ds_freeze {i : Nat} (h : DS X G W s ws) : DS X G W s (sFreeze i ws) := PS.imp h fun D σ H ⟨F, δ, E, S, ⟨xs, e, p⟩, k⟩ => by
  obtain ⟨F2, z, S2⟩ := S.freeze e
  exact ⟨F2, _, E, S2, p, k.sub z⟩
end
end
end DW
set_option Elab.async false
set_option linter.all false
set_option maxRecDepth 100000
set_option maxHeartbeats 4000000
namespace DW
open PySem PySem.Spec L2

section
variable {K : PySem.W.Frag} {w : Option Dw} {G : Gd} {F F1 F2 H H1 H2 : Hp} {σ : L2.St} {δ : DEnv}
variable {X : Cx} {W : WX} {st : Bool} {tg iter e a b c elt : Expr} {es rest : List Expr} {we wa wb wc wk : WE'} {wt wu : WT} {waa : WA} {pos p : Pos} {s : Stmt} {ws wss : WS}
/-! ### writing a local's own list or dict -/
def SVAt (K : PySem.W.Frag) (F : Hp) (u : HO) : SV → Prop
  | .im _ => False
  | .ol xs => ∃ vs, u = .lst vs ∧ RepL K F vs xs
  | .oK kvs => ∃ vs, u = .dK vs ∧ RepKV K F vs kvs
  | .oT kvs => ∃ vs, u = .dT vs ∧ RepKV K F vs kvs
  | .drw => False
theorem RepS.mut {i : Nat} {s0 s1 : SV} {p : Addr} {u : HO} (S : RepS K G F H σ δ) (e : δ[i]? = some (some s0)) (o : s0.owned = true) (ep : σ[i]? = some (some (.ref p))) (n : SVAt K F u s1) :
    RepS K G F (upd H p u) σ (δ.set i (some s1)) := by
  obtain ⟨v0, e1, r0⟩ := S.slot i s0 e
  rw [ep] at e1
  cases e1
  obtain ⟨p', u0, eq, h, nf, nd⟩ := r0.own_at o
  cases eq
  have h0 := S.fresh i s0 p e o ep
  have hl : i < δ.length := (List.getElem?_eq_some_iff.mp e).1
  refine ⟨S.ext.write h0 h nf nd, by rw [List.length_set]; exact S.len, fun j t ej => ?_, fun j t p' ej oj e2 => ?_, fun j k t t' p' ne ej ek o1 o2 e3 e4 => ?_⟩
  · by_cases hj : j = i
    · subst hj
      rw [List.getElem?_set_self hl] at ej
      cases ej
      refine ⟨_, ep, ?_⟩
      cases s1 with
      | im d => exact n.elim
      | ol xs => obtain ⟨vs, rfl, l⟩ := n; exact ⟨p, vs, rfl, upd_same, nf, nd, l⟩
      | oK xs => obtain ⟨vs, rfl, l⟩ := n; exact ⟨p, vs, rfl, upd_same, nf, nd, l⟩
      | oT xs => obtain ⟨vs, rfl, l⟩ := n; exact ⟨p, vs, rfl, upd_same, nf, nd, l⟩
      | drw => exact n.elim
    · rw [List.getElem?_set_ne (Ne.symm hj)] at ej
      obtain ⟨v, e2, r⟩ := S.slot j t ej
      refine ⟨v, e2, ?_⟩
      have off : ∀ q, v = .ref q → t.owned = true → q ≠ p := fun q eq oq z => by
        subst z
        rw [eq] at e2
        exact S.apart j i t s0 q hj ej e oq o e2 ep
      cases t with
      | im d => exact r
      | ol ys => obtain ⟨q, us, rfl, hq, nq, ndq, lq⟩ := r; exact ⟨q, us, rfl, by rw [upd_ne (off q rfl rfl)]; exact hq, nq, ndq, lq⟩
      | oK ys => obtain ⟨q, us, rfl, hq, nq, ndq, lq⟩ := r; exact ⟨q, us, rfl, by rw [upd_ne (off q rfl rfl)]; exact hq, nq, ndq, lq⟩
      | oT ys => obtain ⟨q, us, rfl, hq, nq, ndq, lq⟩ := r; exact ⟨q, us, rfl, by rw [upd_ne (off q rfl rfl)]; exact hq, nq, ndq, lq⟩
      | drw => exact r
  · by_cases hj : j = i
    · subst hj
      rw [ep] at e2
      cases e2
      exact h0
    · rw [List.getElem?_set_ne (Ne.symm hj)] at ej
      exact S.fresh j t p' ej oj e2
  · by_cases hj : j = i
    · subst hj
      by_cases hk : k = j
      · exact ne hk.symm
      · rw [List.getElem?_set_ne (Ne.symm hk)] at ek
        exact S.apart j k s0 t' p' ne e ek o o2 e3 e4
    · rw [List.getElem?_set_ne (Ne.symm hj)] at ej
      by_cases hk : k = i
      · subst hk
        exact S.apart j k t s0 p' ne ej e o1 o e3 e4
      · rw [List.getElem?_set_ne (Ne.symm hk)] at ek
        exact S.apart j k t t' p' ne ej ek o1 o2 e3 e4
/-- xs.append(e) -/
def sAppend (i : Nat) (we : WE') : WS := fun E δ => ∃ xs, δ[i]? = some (some (.ol xs)) ∧ we δ (fun r => ∃ d, r.dat = some d ∧ xs.length < sizeLine ∧ E.nx (δ.set i (some (.ol (xs ++ [d]))))) E.ex
theorem ds_append {i : Nat} (h : PS X s (tDrop (tBM X.K "list" rAppend (tVar i) (tCons (dT X.K G W we) tNil)))) : DS X G W s (sAppend i we) := PS.imp h fun D σ H ⟨F, δ, E, S, ⟨xs, e, p⟩, k⟩ => by
  obtain ⟨v0, e1, pp, vs, rfl, hp, nf, nd, l⟩ := S.slot i _ e
  refine ⟨_, e1, .inl ⟨rfl, vs, SqL.of hp⟩, F, δ, _, _, S, p, fun v F1 H1 r x1 q ⟨d, er, hz, p1⟩ => ?_, k.xok S⟩
  obtain ⟨F2, x2, _, rd⟩ := q.freeze x1 er
  obtain ⟨h', n'⟩ := x2.keepN hp nf nd
  refine ⟨pp, vs, v, rfl, rfl, h', by rw [RepL.length l]; exact hz, ?_⟩
  exact k.nx σ F2 _ _ x2.fs ((S.to x2).mut (s1 := .ol (xs ++ [d])) e rfl e1 ⟨_, rfl, RepL.append (RepL.mono x2.fs l) (.cons rd .nil)⟩) p1
/-- xs.extend(e), e a list of one's own -/
def sExtend (i : Nat) (we : WE') : WS := fun E δ => ∃ xs, δ[i]? = some (some (.ol xs)) ∧ we δ (fun r => ∃ ys, r.own = some ys ∧ xs.length + ys.length ≤ sizeLine ∧ E.nx (δ.set i (some (.ol (xs ++ ys))))) E.ex
theorem ds_extend {i : Nat} (h : PS X s (tDrop (tBM X.K "list" rExtend (tVar i) (tCons (dT X.K G W we) tNil)))) : DS X G W s (sExtend i we) := PS.imp h fun D σ H ⟨F, δ, E, S, ⟨xs, e, p⟩, k⟩ => by
  obtain ⟨v0, e1, pp, vs, rfl, hp, nf, nd, l⟩ := S.slot i _ e
  refine ⟨_, e1, .inl ⟨rfl, vs, SqL.of hp⟩, F, δ, _, _, S, p, fun v F1 H1 r x1 q ⟨ys, er, hz, p1⟩ => ?_, k.xok S⟩
  obtain ⟨b, us, rfl, hb, lb⟩ := q.owns x1.le er
  obtain ⟨h', n'⟩ := x1.keepN hp nf nd
  refine ⟨pp, b, vs, us, rfl, rfl, h', hb, by rw [RepL.length l, RepL.length lb]; exact hz, ?_⟩
  exact k.nx σ F1 _ _ x1.fs ((S.to x1).mut (s1 := .ol (xs ++ ys)) e rfl e1 ⟨_, rfl, RepL.append (RepL.mono x1.fs l) lb⟩) p1
/-- target = xs.pop() -/
def sPop (j : Nat) (wg : WG) : WS := fun E δ => ∃ xs d, δ[j]? = some (some (.ol xs)) ∧ xs[xs.length - 1]? = some d ∧ wg d (δ.set j (some (.ol xs.dropLast))) E.nx
theorem ds_pop {j : Nat} {wg : WG} {ts : List Nat} (h : PS X s (tAsg (tBM0 X.K "list" rPop (tVar j)) (dGT X.K G ts wg))) : DS X G W s (sPop j wg) := PS.imp h fun D σ H ⟨F, δ, E, S, ⟨xs, d, e, ed, p⟩, k⟩ => by
  obtain ⟨v0, e1, pp, vs, rfl, hp, nf, nd, l⟩ := S.slot j _ e
  obtain ⟨v, ev, rd⟩ := RepL.get l ed
  refine ⟨_, e1, .inl ⟨rfl, vs, SqL.of hp⟩, pp, vs, v, rfl, rfl, hp, by rw [RepL.length l]; exact ev, ?_⟩
  exact ⟨F, _, d, _, S.mut (s1 := .ol xs.dropLast) e rfl e1 ⟨_, rfl, RepL.dropLast l⟩, rd, p, fun σ' δ' _ S' p' => k.nx σ' F _ δ' Sub.refl S' p'⟩
/-- target = xs.pop(0) -/
def sPop0 (j : Nat) (wg : WG) : WS := fun E δ => ∃ d xs, δ[j]? = some (some (.ol (d :: xs))) ∧ wg d (δ.set j (some (.ol xs))) E.nx
theorem ds_pop0 {j : Nat} {wg : WG} {ts : List Nat} (h : PS X s (tAsg (tBM X.K "list" rPopAt (tVar j) (tCons (tC (.int 0)) tNil)) (dGT X.K G ts wg))) : DS X G W s (sPop0 j wg) := PS.imp h fun D σ H ⟨F, δ, E, S, ⟨d, xs, e, p⟩, k⟩ => by
  obtain ⟨v0, e1, pp, vs, rfl, hp, nf, nd, l⟩ := S.slot j _ e
  cases l with
  | cons rd l =>
    rename_i v vr
    refine ⟨_, e1, .inl ⟨rfl, _, SqL.of hp⟩, pp, v :: vr, 0, 0, v, rfl, rfl, hp, by decide, by decide, ?_, rfl, ?_⟩
    · have : (vr.length : Nat) + 1 > 0 := Nat.succ_pos _
      first | rfl | (simp [seqIndex?])
    · exact ⟨F, _, d, _, S.mut (s1 := .ol xs) e rfl e1 ⟨_, rfl, l⟩, rd, p, fun σ' δ' _ S' p' => k.nx σ' F _ δ' Sub.refl S' p'⟩
/-- d[k] = v, d a local's own dict -/
def putE (s : SV) (kd : D) (d : D) (P : SV → Prop) : Prop := match s with
  | .oK kvs => ∃ k, keyOf kd = some k ∧ kvs.length < sizeLine ∧ P (.oK (putD kvs k d))
  | .oT kvs => ∃ ds ks, kd = .tuple ds ∧ keysOf ds = some ks ∧ kvs.length < sizeLine ∧ P (.oT (putD kvs ks d))
  | _ => False
def sPut (i : Nat) (wk wv : WE') : WS := fun E δ => ∃ s0, δ[i]? = some (some s0) ∧ wv δ (fun r => ∃ d, r.dat = some d ∧ wk δ (fun r2 => ∃ kd, r2 = .im kd ∧ putE s0 kd d fun s1 => E.nx (δ.set i (some s1))) E.ex) E.ex
theorem ds_put {i : Nat} (h : PS X s (sDPut (tVar i) (dT X.K G W wk) (dT X.K G W we))) : DS X G W s (sPut i wk we) := PS.imp h fun D σ H ⟨F, δ, E, S, ⟨s0, e0, p⟩, k⟩ => by
  refine ⟨F, δ, _, _, S, p, fun v F1 H1 r x1 q ⟨d, er, p1⟩ => ?_, k.xok S⟩
  obtain ⟨F2, x2, _, rd⟩ := q.freeze x1 er
  have S2 := S.to x2
  obtain ⟨v0, e1, r0⟩ := S2.slot i s0 e0
  refine ⟨v0, e1, dT.next S x2 (k.xok S) p1 fun kv F3 H3 r2 x3 q3 ⟨kd, ek, pe⟩ => ?_⟩
  subst ek
  have S3 := S2.to x3
  have r0' := r0.ext x3
  cases s0 with
  | oK kvs =>
    obtain ⟨kk, ek, hl, p3⟩ := pe
    obtain ⟨pp, vs, rfl, hp, nf, nd, l⟩ := r0'
    obtain rfl := RepD.key q3 ek
    exact ⟨pp, _, rfl, DPut.k hp (by rw [RepKV.length l]; exact hl), k.nx σ F3 _ _ (x2.trans x3).fs (S3.mut (s1 := .oK (putD kvs kk d)) e0 rfl e1 ⟨_, rfl, l.put (RepD.mono x3.fs rd)⟩) p3⟩
  | oT kvs =>
    obtain ⟨ds, ks, rfl, ek, hl, p3⟩ := pe
    obtain ⟨pp, vs, rfl, hp, nf, nd, l⟩ := r0'
    obtain ⟨b, us, rfl, hb, lb⟩ := RepR.tuple (K := X.K) (w := G.w) (H := H1) x3.le q3 (xs := ds) rfl
    obtain rfl := RepL.keys lb ek
    exact ⟨pp, _, rfl, DPut.t hp (x3.le _ _ hb) (by rw [RepKV.length l]; exact hl), k.nx σ F3 _ _ (x2.trans x3).fs (S3.mut (s1 := .oT (putD kvs ks d)) e0 rfl e1 ⟨_, rfl, l.put (RepD.mono x3.fs rd)⟩) p3⟩
  | _ => exact pe.elim

/-! ### loops -/
def forGo (wg : WG) (wb : WS) (E : DEnds) : List D → DEnv → Prop
  | [], δ => E.nx δ
  | d :: ds, δ => wg d δ fun δ1 => wb { E with nx := forGo wg wb E ds, ct := forGo wg wb E ds, bk := E.nx } δ1
def sFor (wi : WI) (wg : WG) (wb : WS) : WS := fun E δ => wi δ (fun items => forGo wg wb E items δ) E.ex
theorem ds_for {wi : WI} {wg : WG} {wb : WS} {ts : List Nat} (h : PS X s (tFor (dTI X.K G W true wi) (dGT X.K G ts wg) (dTS X.K G W wb))) : DS X G W s (sFor wi wg wb) := PS.imp h fun D σ H ⟨F, δ, E, S, p, k⟩ => by
  refine ⟨F, δ, _, _, S, p, fun J C F1 H1 items x1 c1 dw stc p1 => ?_, k.xok S⟩
  refine ⟨fun i m σ H => m = items.length - i ∧ i ≤ items.length ∧ ∃ F δ, Sub F1 F ∧ RepS X.K G F H σ δ ∧ forGo wg wb E (items.drop i) δ, ⟨_, rfl, Nat.zero_le _, F1, δ, Sub.refl, S.to x1, p1⟩, ?_⟩
  rintro i m σ H ⟨rfl, hi, F', δ', sb, S', go⟩
  have c' : C F' H := by
    have := stc
    unfold StC at this
    rw [if_pos rfl] at this
    exact this F1 H1 F' H c1 sb S'.ext.le
  obtain ⟨w1, w2, w3⟩ := dw F' H c' S'.ext.stay
  by_cases hlt : i < items.length
  · refine .inr ⟨w1 i hlt, fun σ'' H'' => i + 1 ≤ items.length ∧ ∃ F δ, Sub F1 F ∧ RepS X.K G F H'' σ'' δ ∧ forGo wg wb E (items.drop (i + 1)) δ, fun σ'' H'' n => ⟨items.length - (i + 1), by omega, rfl, n⟩, fun x H' y => ?_⟩
    have hd : items[i]? = some items[i] := List.getElem?_eq_getElem hlt
    have hdrop : items.drop i = items[i] :: items.drop (i + 1) := List.drop_eq_getElem_cons hlt
    rw [hdrop] at go
    obtain ⟨F2, x2, rd⟩ := w3 i x H' _ hd y
    refine ⟨F2, δ', _, _, S'.to x2, rd, go, fun σ2 δ2 _ S2 p2 => ⟨F2, δ2, _, S2, p2, ?_⟩⟩
    have sb2 : Sub F1 F2 := sb.trans x2.fs
    have sbF : Sub F F2 := x1.fs.trans sb2
    exact ⟨fun σ3 F3 H3 δ3 z S3 p3 => ⟨hlt, F3, δ3, sb2.trans z, S3, p3⟩, fun σ3 F3 H3 δ3 z S3 p3 => k.nx σ3 F3 H3 δ3 (sbF.trans z) S3 p3, fun σ3 F3 H3 δ3 z S3 p3 => ⟨hlt, F3, δ3, sb2.trans z, S3, p3⟩, k.rt, k.ex⟩
  · have hn : i = items.length := by omega
    subst hn
    rw [List.drop_length] at go
    exact .inl ⟨w2, k.nx σ F' H δ' (x1.fs.trans sb) S' go⟩
def sWhile (wt : WT) (wb : WS) : WS := fun E δ => ∃ I : Nat → DEnv → Prop, (∃ m, I m δ) ∧ ∀ m δ, I m δ →
  wt δ (fun b => if b = true then wb { E with nx := fun δ' => ∃ m', m' < m ∧ I m' δ', ct := fun δ' => ∃ m', m' < m ∧ I m' δ', bk := E.nx } δ else E.nx δ) E.ex
theorem ds_while {wb : WS} (h : PS X s (tWhile (dTT X.K G W wt) (dTS X.K G W wb))) : DS X G W s (sWhile wt wb) := PS.imp h fun D σ H ⟨F, δ, E, S, ⟨I, ⟨m0, i0⟩, turn⟩, k⟩ => by
  refine ⟨fun m σ H => ∃ F' δ', Sub F F' ∧ RepS X.K G F' H σ δ' ∧ I m δ', ⟨m0, F, δ, Sub.refl, S, i0⟩, ?_⟩
  rintro m σ' H' ⟨F', δ', sb, S', im⟩
  refine ⟨F', δ', _, _, S', turn m δ' im, fun b F1 H1 x1 p1 => ?_, (k.sub sb).xok S'⟩
  cases b with
  | false =>
    rw [if_neg Bool.false_ne_true] at p1 ⊢
    exact k.nx σ' F1 H1 δ' (sb.trans x1.fs) (S'.to x1) p1
  | true =>
    rw [if_pos rfl] at p1 ⊢
    have sb1 := sb.trans x1.fs
    refine ⟨fun σ2 H2 => ∃ m', m' < m ∧ ∃ F' δ', Sub F F' ∧ RepS X.K G F' H2 σ2 δ' ∧ I m' δ', fun σ2 H2 n => n, F1, δ', _, S'.to x1, p1, ?_⟩
    exact ⟨fun σ3 F3 H3 δ3 z S3 ⟨m', hm, p3⟩ => ⟨m', hm, F3, δ3, sb1.trans z, S3, p3⟩, fun σ3 F3 H3 δ3 z S3 p3 => k.nx σ3 F3 H3 δ3 (sb1.trans z) S3 p3, fun σ3 F3 H3 δ3 z S3 ⟨m', hm, p3⟩ => ⟨m', hm, F3, δ3, sb1.trans z, S3, p3⟩, k.rt, k.ex⟩

/-! ### calls of defs -/
abbrev DSpec := List R → (R → Prop) → (DX → Prop) → Prop
def plainR : R → Bool
  | .im _ => true
  | .drw => true
  | _ => false
theorem RepR.any {v : V} {r : R} {H' : Hp} (q : RepR K w H F1 H1 v r) (g : plainR r = true) : RepR K w H' F1 H1 v r := by
  cases r with
  | im d => exact q
  | drw => exact q
  | _ => cases g
theorem RepRs.any {vs : List V} {rs : List R} {H' : Hp} (q : RepRs K w H F1 H1 vs rs) (g : rs.all plainR = true) : RepRs K w H' F1 H1 vs rs := by
  induction q with
  | nil => exact .nil
  | cons r _ ih =>
    rw [List.all_cons, Bool.and_eq_true] at g
    exact .cons (r.any g.1) (ih g.2)
theorem RepRs.length {vs : List V} {rs : List R} (q : RepRs K w H F1 H1 vs rs) : vs.length = rs.length := by
  induction q with
  | nil => rfl
  | cons _ _ ih => rw [List.length_cons, List.length_cons, ih]
/-- the promise of a def over data: n arguments, data or the drawer -/
def dSp (K : PySem.W.Frag) (n : Nat) (S : DSpec) : Sp := fun vs H Q E => ∃ w F rs P PX, Ext w F H F H ∧ RepRs K w H F H vs rs ∧ rs.all plainR = true ∧ rs.length = n ∧ S rs P PX ∧
  (∀ v F' H' r, Ext w F H F' H' → RepR K w H F' H' v r → r.given = true → P r → Q v H') ∧ (∀ x F' H' cls d, Ext w F H F' H' → RepX K F' H' x cls d → PX x → E cls d H')
theorem dSp_len {n : Nat} {S : DSpec} (vs : List V) (H : Hp) (Q : VK) (E : XK) (h : dSp K n S vs H Q E) : vs.length = n := by
  obtain ⟨w, F, rs, P, PX, x, q, g, hn, _⟩ := h
  rw [q.length, hn]
def wCallF (n : Nat) (S : DSpec) (wa : WA) : WE' := fun δ P PX => wa δ (fun rs => rs.all plainR = true ∧ rs.length = n ∧ S rs (fun r => r.given = true → P r) PX) PX
theorem callF_of {n : Nat} {S : DSpec} {σ : L2.St} {H : Hp} {Q : VK} (h : dT K G W (wCallF n S waa) σ H Q) : dTA K G W waa σ H fun vs H1 => dSp K n S vs H1 Q (WE W σ) := by
  obtain ⟨F, δ, P, PX, S', p, k, xk⟩ := h
  refine ⟨F, δ, _, PX, S', p, fun vs F1 H1 rs x1 q ⟨g, hn, p1⟩ => ?_, xk⟩
  exact ⟨G.w, F1, rs, _, PX, x1.stay, q.any g, g, hn, p1, fun v F' H' r x2 q2 gv p2 => k v F' H' r (x1.trans x2) (q2.back x1) (p2 gv), fun x F' H' cls d x2 r px => xk x F' H' cls d (x1.trans x2) r px⟩
/-- a def that lets nothing out -/
theorem de_call {n : Nat} {S : DSpec} {E : XK} (h : PE X e (tCall (dSp X.K n S) [] E (dTA X.K G W waa))) (hS : ∀ rs P PX PX', S rs P PX → S rs P PX') : DE X G W e (wCallF n S waa) := PE.imp h fun σ H Q hq => by
  obtain ⟨F, δ, P, PX, S', p, k, xk⟩ := hq
  refine ⟨F, δ, _, PX, S', p, fun vs F1 H1 rs x1 q ⟨g, hn, p1⟩ => ?_, xk⟩
  show dSp X.K n S (vs ++ []) H1 Q E
  rw [List.append_nil]
  exact ⟨G.w, F1, rs, _, fun _ => False, x1.stay, q.any g, g, hn, hS _ _ _ _ p1, fun v F' H' r x2 q2 gv p2 => k v F' H' r (x1.trans x2) (q2.back x1) (p2 gv), fun x F' H' cls d x2 r px => px.elim⟩
theorem de_callX {n : Nat} {S : DSpec} (h : PE X e (tCallS (dSp X.K n S) (WE W) (dTA X.K G W waa))) : DE X G W e (wCallF n S waa) := PE.imp h fun σ H Q hq => callF_of hq
end
end DW
set_option Elab.async false
set_option linter.all false
set_option maxRecDepth 100000
set_option maxHeartbeats 4000000
namespace DW
open PySem PySem.Spec L2

section
variable {K : PySem.W.Frag} {w : Option Dw} {G : Gd} {F F1 F2 H H1 H2 : Hp} {σ : L2.St} {δ : DEnv}
variable {X : Cx} {W : WX} {st : Bool} {tg iter e a b c elt o : Expr} {es rest : List Expr} {we wa wb wc wk wo : WE'} {wt wu : WT} {waa : WA} {pos p apos cpos : Pos} {s : Stmt} {ws wss : WS}
/-! ### tuple(xs), any, all, max -/
def kTupOf : KC := fun rs P => match rs with
  | [.im (.tuple xs)] => P (.im (.tuple xs))
  | [r] => ∃ xs, r.lst = some xs ∧ P (.im (.tuple xs))
  | _ => False
theorem callD_tuple : CallD K (fun xs H Q => ∃ p ys, xs = [.ref p] ∧ ((SqL K H p ys ∧ ∀ l, H l = none → Q (.ref l) (upd H l (.tup ys))) ∨ (SqT K H p ys ∧ Q (.ref p) H))) kTupOf := by
  intro w H0 F H vs rs P Q x0 q h k
  unfold kTupOf at h
  split at h
  · rename_i xs
    cases q with
    | cons a t =>
      cases t
      obtain ⟨b, us, rfl, hb, lb⟩ := RepR.tuple (K := K) (w := w) (H := H0) x0.le a (xs := xs) rfl
      exact ⟨b, us, rfl, .inr ⟨.inl (.inl (x0.le _ _ hb)), k _ F H (.im (.tuple xs)) x0 a h⟩⟩
  · rename_i r hne
    obtain ⟨xs, e, p⟩ := h
    cases q with
    | cons a t =>
      cases t
      obtain ⟨b, us, rfl, hb, lb⟩ := a.list x0.le e
      refine ⟨b, us, rfl, .inl ⟨hb, fun l hl => ?_⟩⟩
      obtain ⟨x1, r1⟩ := new_tup (K := K) x0 hl lb
      exact k _ _ _ _ x1 r1 p
  · exact h.elim
theorem RepL.isBools : ∀ {bs : List Bool} {vs : List V}, RepL K F vs (bs.map PyData.bool) → vs = bs.map V.bl
  | [], _, h => by cases h; rfl
  | n :: r, _, h => by
    rw [List.map_cons] at h
    cases h with
    | cons a t => cases a; rw [RepL.isBools t]; rfl
def kAny : KC := fun rs P => ∃ (r : R) (bs : List Bool), rs = [r] ∧ r.lst = some (bs.map PyData.bool) ∧ P (.im (.bool (bs.any id)))
def kAll : KC := fun rs P => ∃ (r : R) (bs : List Bool), rs = [r] ∧ r.lst = some (bs.map PyData.bool) ∧ P (.im (.bool (bs.all id)))
theorem callD_any : CallD K (rAny K) kAny := by
  rintro w H0 F H vs rs P Q x0 q ⟨r, bs, rfl, e, p⟩ k
  cases q with
  | cons a t =>
    cases t
    obtain ⟨b, us, rfl, hb, lb⟩ := a.list x0.le e
    rw [RepL.isBools lb] at hb
    exact ⟨b, bs, rfl, hb, k _ F H (.im _) x0 (.bl _) p⟩
theorem callD_all : CallD K (rAll K) kAll := by
  rintro w H0 F H vs rs P Q x0 q ⟨r, bs, rfl, e, p⟩ k
  cases q with
  | cons a t =>
    cases t
    obtain ⟨b, us, rfl, hb, lb⟩ := a.list x0.le e
    rw [RepL.isBools lb] at hb
    exact ⟨b, bs, rfl, hb, k _ F H (.im _) x0 (.bl _) p⟩
def kMax2 : KC := fun rs P => ∃ i j : Int, rs = [.im (.int i), .im (.int j)] ∧ P (.im (.int (if j > i then j else i)))
theorem callD_max2 : CallD K (fun xs H Q => ∃ i j, xs = [.int i, .int j] ∧ Q (.int (if j > i then j else i)) H) kMax2 := by
  rintro w H0 F H vs rs P Q x0 q ⟨i, j, rfl, p⟩ k
  cases q with
  | cons a t =>
    cases t with
    | cons b u => cases u; cases a; cases b; exact ⟨i, j, rfl, k _ F H (.im _) x0 (.int _) p⟩
def kMaxL : KC := fun rs P => ∃ (r : R) (ns : List Int), rs = [r] ∧ r.lst = some (ns.map PyData.int) ∧ 0 < ns.length ∧ ∀ m, m ∈ ns → (∀ y, y ∈ ns → y ≤ m) → P (.im (.int m))
theorem callD_maxL : CallD K (rMax K) kMaxL := by
  rintro w H0 F H vs rs P Q x0 q ⟨r, ns, rfl, e, hn, p⟩ k
  cases q with
  | cons a t =>
    cases t
    obtain ⟨b, us, rfl, hb, lb⟩ := a.list x0.le e
    rw [RepL.isInts lb] at hb
    exact ⟨b, ns, rfl, hb, hn, fun m h1 h2 => k _ F H (.im _) x0 (.int _) (p m h1 h2)⟩
/-- by a built-in's name -/
theorem de_callB {r : List V → Hp → VK → Prop} {k : KC} (h : PE X e (tCB r (dTA X.K G W waa))) (hk : CallD X.K r k) : DE X G W e (wCall k waa) := PE.imp h fun _ _ _ h => tCB_of hk h

/-! ### tuple(range(..)) -/
def wTupR1 (wa : WE') : WE' := fun δ P PX => wa δ (fun r => ∃ n : Int, r = .im (.int n) ∧ 0 ≤ n ∧ n ≤ 16777216 ∧ P (.im (.tuple (intsD 0 n.toNat)))) PX
theorem RepL.rg : ∀ {lo : Int} {n : Nat}, RepL K F ((List.range n).map fun i => V.int (lo + (i : Nat))) (intsD lo n) := by
  intro lo n
  unfold intsD
  induction (List.range n) with
  | nil => exact .nil
  | cons i r ih => exact .cons (.int _) ih
theorem de_tupR1 (hc : X.calm = true) (hg : Gl X "tuple") (hm : X.mg "tuple" = none) (hg2 : Gl X "range") (hm2 : X.mg "range" = none) (ha : DE X G W a wa) (na : starEach [a] X.env = (false, eval a X.env) :: starEach [] X.env := by rfl)
    (nb : starEach [.Call (.Name "range" apos) [a] [] cpos] X.env = (false, eval (.Call (.Name "range" apos) [a] [] cpos) X.env) :: starEach [] X.env := by rfl) : DE X G W (.Call (.Name "tuple" p) [.Call (.Name "range" apos) [a] [] cpos] [] pos) (wTupR1 wa) :=
  PE.imp (pe_tupRg hc hg hm (prg_1 hg2 hm2 ha na) nb) fun σ H Q ⟨F, δ, P, PX, S, q, k, xk⟩ => by
    refine ⟨F, δ, _, PX, S, q, fun v F1 H1 r x1 q1 ⟨n, e, h1, h2, p1⟩ => ?_, xk⟩
    subst e
    cases q1
    refine ⟨n, rfl, RgOk.of_le (by decide) h2 (by decide) h1, fun t ht => ?_⟩
    have l : RepL X.K F1 (rgV 0 n) (intsD 0 n.toNat) := by
      unfold rgV
      rw [Int.sub_zero]
      exact RepL.rg
    obtain ⟨x2, r2⟩ := new_tup (K := X.K) x1.stay ht l
    exact k _ _ _ _ (x1.trans x2) (r2.back x1) p1

/-! ### methods of texts and lists -/
/-- a method: the receiver is read first -/
def MtD (K : PySem.W.Frag) (T : String) (r : V → List V → Hp → VK → Prop) (ok : R → Prop) (k : R → KC) : Prop :=
  (∀ (w : Option Dw) (H0 F H : Hp) (x : V) (r0 : R), Sub F H → RepR K w H0 F H x r0 → ok r0 → tyV K T x H) ∧
  ∀ (w : Option Dw) (H0 F H : Hp) (x : V) (r0 : R) (vs : List V) (rs : List R) (P : R → Prop) (Q : VK), Ext w F H F H → RepR K w H0 F H x r0 → RepRs K w H0 F H vs rs → k r0 rs P →
    (∀ v F' H' r, Ext w F H F' H' → RepR K w H F' H' v r → P r → Q v H') → r x vs H Q
def wMt (ok : R → Prop) (k : R → KC) (wo : WE') (wa : WA) : WE' := fun δ P PX => wo δ (fun r0 => ok r0 ∧ wa δ (fun rs => k r0 rs P) PX) PX
theorem de_mt {T : String} {r : V → List V → Hp → VK → Prop} {ok : R → Prop} {k : R → KC} (h : PE X e (tBM X.K T r (dT X.K G W wo) (dTA X.K G W waa))) (hk : MtD X.K T r ok k) : DE X G W e (wMt ok k wo waa) := PE.imp h fun σ H Q ⟨F, δ, P, PX, S, q, kk, xk⟩ => by
  refine ⟨F, δ, _, PX, S, q, fun x F1 H1 r0 x1 q1 ⟨ho, p1⟩ => ⟨hk.1 G.w H F1 H1 x r0 x1.le q1 ho, ?_⟩, xk⟩
  refine dTA.next S x1 xk p1 fun vs F2 H2 rs x2 q2 p2 => ?_
  exact hk.2 G.w H F2 H2 x r0 vs rs P Q x2.stay (q1.to x2) (q2.back x1) p2 fun v F' H' r x3 q3 p3 => kk v F' H' r ((x1.trans x2).trans x3) (q3.back (x1.trans x2)) p3
def isS (r : R) : Prop := ∃ s, r = .im (.str s)
def isL (r : R) : Prop := ∃ xs, r.lst = some xs
theorem tyS {w : Option Dw} {H0 F H : Hp} {x : V} {r0 : R} (le : Sub F H) (q : RepR K w H0 F H x r0) (h : isS r0) : tyV K "str" x H := by
  obtain ⟨s, rfl⟩ := h
  cases q
  rfl
theorem tyL {w : Option Dw} {H0 F H : Hp} {x : V} {r0 : R} (le : Sub F H) (q : RepR K w H0 F H x r0) (h : isL r0) : tyV K "list" x H := by
  obtain ⟨xs, e⟩ := h
  obtain ⟨b, us, rfl, hb, lb⟩ := q.list le e
  exact .inl ⟨rfl, us, hb⟩
/-- s.index(t) -/
def kSIndex : R → KC := fun r0 rs P => ∃ a b i rest, r0 = .im (.str a) ∧ rs = [.im (.str b)] ∧ Builtin.Str.occurrences a b 0 a.length 1 = i :: rest ∧ P (.im (.int (i : Nat)))
theorem mtD_sindex : MtD K "str" (fun x xs H Q => ∃ a b i rest, x = .str a ∧ xs = [.str b] ∧ Builtin.Str.occurrences a b 0 a.length 1 = i :: rest ∧ Q (.int (i : Nat)) H) isS kSIndex := by
  refine ⟨fun w H0 F H x r0 le q h => tyS le q h, ?_⟩
  rintro w H0 F H x r0 vs rs P Q x0 q qs ⟨a, b, i, rest, rfl, rfl, ho, p⟩ k
  cases q
  cases qs with
  | cons r t => cases t; cases r; exact ⟨a, b, i, rest, rfl, rfl, ho, k _ F H (.im _) x0 (.int _) p⟩
/-- sep.join(xs) -/
def kJoin : R → KC := fun r0 rs P => ∃ (a : Str) (r : R) (ys : List Str), r0 = .im (.str a) ∧ rs = [r] ∧ r.lst = some (ys.map PyData.str) ∧ (ys.map (·.length)).sum + ys.length * a.length ≤ 16777216 ∧ P (.im (.str (Txt.join a ys)))
theorem RepL.isStrs : ∀ {bs : List Str} {vs : List V}, RepL K F vs (bs.map PyData.str) → vs = bs.map V.str
  | [], _, h => by cases h; rfl
  | n :: r, _, h => by
    rw [List.map_cons] at h
    cases h with
    | cons a t => cases a; rw [RepL.isStrs t]; rfl
theorem mtD_join : MtD K "str" (fun x xs H Q => ∃ a p, ∃ ys : List Str, x = .str a ∧ xs = [.ref p] ∧ (SqL K H p (ys.map V.str) ∨ SqT K H p (ys.map V.str)) ∧
    (ys.map (·.length)).sum + ys.length * a.length ≤ 16777216 ∧ Q (.str (Txt.join a ys)) H) isS kJoin := by
  refine ⟨fun w H0 F H x r0 le q h => tyS le q h, ?_⟩
  rintro w H0 F H x r0 vs rs P Q x0 q qs ⟨a, r, ys, rfl, rfl, e, hz, p⟩ k
  cases q
  cases qs with
  | cons r t =>
    cases t
    obtain ⟨b, us, rfl, hb, lb⟩ := r.list x0.le e
    rw [RepL.isStrs lb] at hb
    exact ⟨a, b, ys, rfl, rfl, .inl hb, hz, k _ F H (.im _) x0 (.str _) p⟩
/-- xs.index(y) -/
def kLIndex : R → KC := fun r0 rs P => ∃ ds r d j z, r0.lst = some ds ∧ rs = [r] ∧ r.datA = some d ∧ SeqAt.shaped (.list ds) = true ∧ SeqAt.shaped d = true ∧ ds[j]? = some z ∧ PyData.eqv z d = true ∧
  (∀ (m : Nat) (z' : D), m < j → ds[m]? = some z' → PyData.eqv z' d = false) ∧ P (.im (.int (j : Nat)))
theorem mtD_lindex : MtD K "list" (rIndexD K) isL kLIndex := by
  refine ⟨fun w H0 F H x r0 le q h => tyL le q h, ?_⟩
  rintro w H0 F H x r0 vs rs P Q x0 q qs ⟨ds, r, d, j, z, e0, rfl, e, s1, s2, hz, he, hno, p⟩ k
  have hl := q.dpl x0.le e0 (SeqAt.canLay_of_shaped s1)
  cases qs with
  | cons r t =>
    cases t
    obtain ⟨b, us, rfl, hb, lb⟩ := q.list x0.le e0
    exact ⟨b, _, d, ds, j, z, rfl, rfl, hl, r.dp x0.le e (SeqAt.canLay_of_shaped s2), s1, s2, hz, he, hno, k _ F H (.im _) x0 (.int _) p⟩

/-! ### one sign in a text -/
def kInS (neg : Bool) : KO := fun r1 r2 P => ∃ (c : Nat) (z : Str), r1 = .im (.str ⟨#[c]⟩) ∧ r2 = .im (.str z) ∧ P (.im (.bool (if neg then !decide (c ∈ z.cps.toList) else decide (c ∈ z.cps.toList))))
theorem opd_inS : OpD K (fun x y H Q => ∃ (c : Nat) (z : Str), x = .str ⟨#[c]⟩ ∧ y = .str z ∧ Q (.bl (decide (c ∈ z.cps.toList))) H) (kInS false) := by
  intro w H0 F H x y r1 r2 P Q x0 q1 q2 ⟨c, z, e1, e2, p⟩ k
  subst e1; subst e2
  cases q1; cases q2
  exact ⟨c, z, rfl, rfl, k _ F H (.im _) x0 (.bl _) p⟩
theorem de_inS (ha : DE X G W a wa) (hb : DE X G W b wb) (hm : behindInMarks .In b = false := by rfl) : DE X G W (.Compare a [.In] [b] pos) (wOp (kInS false) wa wb) := de_cmp op_in_sign opd_inS ha hb hm

/-! ### slices -/
def wSl (k : R → Option Int → Option Int → (R → Prop) → Prop) (we : WE') (lo hi : WE' ⊕ Unit) : WE' := fun δ P PX => we δ (fun r => match lo, hi with
  | .inr _, .inr _ => k r none none P
  | .inl wl, .inr _ => wl δ (fun rl => ∃ i : Int, rl = .im (.int i) ∧ k r (some i) none P) PX
  | .inr _, .inl wh => wh δ (fun rh => ∃ i : Int, rh = .im (.int i) ∧ k r none (some i) P) PX
  | .inl wl, .inl wh => wl δ (fun rl => ∃ i : Int, rl = .im (.int i) ∧ wh δ (fun rh => ∃ j : Int, rh = .im (.int j) ∧ k r (some i) (some j) P) PX) PX) PX
end
end DW
set_option Elab.async false
set_option linter.all false
set_option maxRecDepth 100000
set_option maxHeartbeats 4000000
namespace DW
open PySem PySem.Spec L2

def R.arg : R → Option SV
  | .im d => some (.im d)
  | .drw => some .drw
  | _ => none
def startD (N : List Str) (rs : List R) : DEnv := rs.map R.arg ++ List.replicate (N.length - rs.length) none
section
variable {K : PySem.W.Frag} {w : Option Dw} {F H : Hp}
theorem start_get {N : List Str} {vs : List V} {rs : List R} {H0 : Hp} (q : RepRs K w H0 F H vs rs) : ∀ {i : Nat} {s : SV}, (startD N rs)[i]? = some (some s) → ∃ v r, (L2.start N vs)[i]? = some (some v) ∧ RepR K w H0 F H v r ∧ r.arg = some s := by
  intro i s e
  unfold startD at e
  unfold L2.start
  have hl := q.length
  by_cases h : i < rs.length
  · rw [List.getElem?_append_left (by rw [List.length_map]; exact h)] at e
    rw [List.getElem?_append_left (by rw [List.length_map]; omega)]
    clear hl h
    induction q generalizing i with
    | nil => simp at e
    | @cons v r vs rs a t ih =>
      cases i with
      | zero =>
        simp only [List.map_cons, List.getElem?_cons_zero] at e ⊢
        exact ⟨v, r, rfl, a, Option.some.inj e⟩
      | succ j =>
        simp only [List.map_cons, List.getElem?_cons_succ] at e ⊢
        exact ih e
  · rw [List.getElem?_append_right (by rw [List.length_map]; omega)] at e
    rw [List.getElem?_replicate] at e
    split at e <;> cases e
theorem start_ok {N : List Str} {vs : List V} {rs : List R} (x : Ext w F H F H) (q : RepRs K w H F H vs rs) (hN : rs.length ≤ N.length) : RepS K ⟨w, F, H⟩ F H (L2.start N vs) (startD N rs) := by
  have own : ∀ {r : R} {s : SV}, r.arg = some s → s.owned = true → False := fun {r s} e o => by
    cases r with
    | im d => cases e; cases o
    | drw => cases e; cases o
    | _ => cases e
  refine ⟨x, ?_, fun i s e => ?_, fun i s p e o _ => ?_, fun i j s t p _ e _ o _ _ _ => ?_⟩
  · unfold L2.start startD
    rw [List.length_append, List.length_append, List.length_map, List.length_map, List.length_replicate, List.length_replicate, q.length]
  · obtain ⟨v, r, e1, rr, ea⟩ := start_get q e
    refine ⟨v, e1, ?_⟩
    cases r with
    | im d => cases ea; exact rr
    | drw => cases ea; exact rr
    | _ => cases ea
  · obtain ⟨v, r, e1, rr, ea⟩ := start_get q e
    exact (own ea o).elim
  · obtain ⟨v, r, e1, rr, ea⟩ := start_get q e
    exact (own ea o).elim
end
/-- what a def's body is to end in -/
def fnEnds (P : R → Prop) (PX : DX → Prop) : DEnds := ⟨fun _ => P (.im .none), fun r => r.given = true ∧ P r, fun _ => False, fun _ => False, PX⟩
section
variable {P : Program} {w : World} {K : PySem.W.Frag} {mg : Str → Option Value} {base : Heap}
theorem dfn_ok {x qual : Str} {st : Stmt} {f : Addr} {fd : FuncData} {N ps : List Str} {k n : Nat} {S : DSpec} {ws : WS} (Fn : Fun K x qual st f fd) (sc : FnScope N ps (defScope st)) (hn : ps.length = n) (hN : n ≤ N.length)
    (body : ∀ (cdv : Value) (A : Around) (outer : List Env) (s : Shared) (H : Hp) (E : XK) (G : Gd), Room k (A.deeper (PyProof.Rows.envOfC qual (defScope st) s.heap.objs.size f cdv)) →
      DSs (cxOf CX0 P w K mg base N qual (defScope st) f cdv A outer s H E).nox G wTrue (defBody st) ws)
    (sem : ∀ rs P, rs.length = n → rs.all plainR = true → S rs P (fun _ => False) → ws (fnEnds P fun _ => False) (startD N rs))
    (hS : ∀ rs P PX, S rs P PX → S rs P fun _ => False) : FnOk P w K mg base CX0 (k + 1) f fd ps (dSp K n S) := by
  refine Fn.ok sc (fun vs H Q E h => (dSp_len vs H Q E h).trans hn.symm) fun cdv A outer s H vs Q E hr h => ?_
  obtain ⟨dw, F, rs, PP, PX, x, q, g, hl, hs, kq, _⟩ := h
  refine ⟨_, body cdv A outer s H E ⟨dw, F, H⟩ hr, F, _, fnEnds PP fun _ => False, start_ok x q (by rw [hl]; exact hN), sem rs PP hl g (hS _ _ _ hs), ?_⟩
  refine ⟨fun σ' F' H' δ' _ S' p => ?_, fun _ _ _ _ _ _ z => z.elim, fun _ _ _ _ _ _ z => z.elim, fun v F' H' r x' r' ⟨gv, p⟩ => kq v F' H' r x' r' gv p, fun _ _ _ _ _ _ _ _ z => z.elim⟩
  exact kq .non F' H' (.im .none) S'.ext .non rfl p
/-- a def that may let out an exception -/
theorem dfn_okX {x qual : Str} {st : Stmt} {f : Addr} {fd : FuncData} {N ps : List Str} {k n : Nat} {S : DSpec} {ws : WS} (Fn : Fun K x qual st f fd) (sc : FnScope N ps (defScope st)) (hn : ps.length = n) (hN : n ≤ N.length)
    (body : ∀ (cdv : Value) (A : Around) (outer : List Env) (s : Shared) (H : Hp) (E : XK) (G : Gd), Room k (A.deeper (PyProof.Rows.envOfC qual (defScope st) s.heap.objs.size f cdv)) →
      DSs (cxOf (L2.CX P w) P w K mg base N qual (defScope st) f cdv A outer s H E) G (fun cls d _ H => E cls d H) (defBody st) ws)
    (sem : ∀ rs P PX, rs.length = n → rs.all plainR = true → S rs P PX → ws (fnEnds P PX) (startD N rs)) : FnOk P w K mg base (L2.CX P w) (k + 1) f fd ps (dSp K n S) := by
  refine Fn.okX sc (fun vs H Q E h => (dSp_len vs H Q E h).trans hn.symm) fun cdv A outer s H vs Q E hr h => ?_
  obtain ⟨dw, F, rs, PP, PX, x, q, g, hl, hs, kq, kx⟩ := h
  refine ⟨_, body cdv A outer s H E ⟨dw, F, H⟩ hr, F, _, fnEnds PP PX, start_ok x q (by rw [hl]; exact hN), sem rs PP PX hl g hs, ?_⟩
  refine ⟨fun σ' F' H' δ' _ S' p => ?_, fun _ _ _ _ _ _ z => z.elim, fun _ _ _ _ _ _ z => z.elim, fun v F' H' r x' r' ⟨gv, p⟩ => kq v F' H' r x' r' gv p, fun x F' H' cls d σ' e r p => kx x F' H' cls d e r p⟩
  exact kq .non F' H' (.im .none) S'.ext .non rfl p
end
end DW
set_option Elab.async false
set_option linter.all false
set_option maxRecDepth 100000
set_option maxHeartbeats 4000000
namespace DW
open PySem PySem.Spec L2 PyProof.Rows

section
variable {X : Cx}
/-- a display's or a comprehension's own store, whatever the keys -/
theorem dset {pins : List (Addr × Obj)} {σ : L2.St} {H H' : Hp} {s : Shared} {E : Value → Shared → Prop} {D : Addr} {y v : V} {u r : Value} {Q : Unit → Shared → Prop} (hu : X.A.units + 1 < cLine) (I : Inv X pins σ H s) (g : DPut H D y v H')
    (ry : RelV y u) (rv : RelV v r) (h : ∀ t, Inv X pins σ H' t → Q () t) : wpAny (model X.prog X.w) X.A (dictSet D u r) Q E s := by
  rcases g with ⟨kvs, k, e, ey, l, eH⟩ | ⟨kvs, k, b, e, ey, eb, l, eH⟩
  · subst ey; subst eH
    exact d_dictSet I e l ry rv h
  · subst ey; subst eH
    obtain rfl : u = Value.ref b := ry
    obtain ⟨z, ns, xs, q, dd⟩ := dt_of I.hok e
    have z1 : xs.length ≤ sizeLine := Paired.length q ▸ z
    have z2 : (putK kvs k v).length ≤ sizeLine := Nat.le_trans (length_putK kvs k v) (by omega)
    refine wpAny_dictSet_heap (hsz := z1) (Nat.lt_of_succ_lt hu) (key_of I.hok eb) dd fun hp dd2 sb => h _ ?_
    obtain ⟨ob, es, ep, hq, a2, a3, a4, _, a5⟩ := dd2
    have cut : ∀ c ys, H c = some (.tup ys) → upd H D (.dT (putK kvs k v)) c = some (.tup ys) := fun c ys ec => by
      rw [upd_ne (ne_of ec e (fun z => nomatch z))]; exact ec
    exact d_write I (by rw [e]; exact True.intro) sb ⟨ob, hq⟩ ⟨z2, ns, _, (q.put k eb rv).keeps cut, ob, es, ep, hq, a2, a3, a4, a5⟩
/-- what is wanted of {k: v for ..}: o0 the empty dict of the kind -/
def tDG (o0 : HO) (wi : TI) (g : TG) (tt : TT) (tk tv : TE) (vs : List Nat) : TE := fun σ H Q => wi σ H fun J H1 => ∀ D, H1 D = none → ∃ U : Nat → Nat → Hp → Prop, (∃ m, U 0 m (upd H1 D o0)) ∧ ∀ i m H, U i m H →
  (J.stop i H ∧ Q (.ref D) H) ∨ (J.go i H ∧ ∃ Nx : Hp → Prop, (∀ H', Nx H' → ∃ n, n < m ∧ U (i + 1) n H') ∧ ∀ x H', J.yld i H x H' → g x (wipe σ vs) H' fun τ H2 => wipe τ vs = wipe σ vs ∧ tt τ H2 fun b H3 =>
    if b = true then tk τ H3 fun y H4 => tv τ H4 fun z H5 => ∃ H6, DPut H5 D y z H6 ∧ Nx H6 else Nx H3)
/-- o0 is an empty dict -/
def Emp (o0 : HO) : Prop := o0 = .dK [] ∨ o0 = .dT []
theorem Emp.ok {o0 : HO} (e : Emp o0) {P : Program} {w : World} {H : Hp} (h : Heap) (hb : sysModules < h.objs.size) : ObjOk P w H (h.push { cls := .type "dict", data := .dict #[] }) h.objs.size o0 := by
  rcases e with rfl | rfl
  · exact dk_empty h hb
  · exact dt_empty h hb
theorem dg_core {o0 : HO} {pins : List (Addr × Obj)} {s : Shared} {σ : L2.St} {H : Hp} {Q : VK} {kx vx tg iter : Expr} {ifs : List Expr} {scope : Scope} {own : List (Str × Nat)} {p1 p2 : Pos} {wi : TI} {g : TG} {tt : TT} {tk tv : TE} {use : Option (Value → Sem Unit)} {Qf : Value → Shared → Prop}
    (he0 : Emp o0) (hu : X.A.units + 1 < cLine) (calm : X.calm = true) (nd : X.N.Nodup) (I : Inv X pins σ H s) (hi : PI X tg iter wi) (ok : BlkOk X.N X.env.scope scope own)
    (hg : ∀ (s : Shared) (H : Hp) (C : Addr) (cl : List (Str × Addr)) (fp : List Addr), PG (X.blk s H scope (compEnvC scope cl C X.env) fp) tg g) (ht : ∀ (s : Shared) (H : Hp) (C : Addr) (cl : List (Str × Addr)) (fp : List Addr), PTs (X.blk s H scope (compEnvC scope cl C X.env) fp) ifs tt)
    (hk : ∀ (s : Shared) (H : Hp) (C : Addr) (cl : List (Str × Addr)) (fp : List Addr), PE (X.blk s H scope (compEnvC scope cl C X.env) fp) kx tk) (hv : ∀ (s : Shared) (H : Hp) (C : Addr) (cl : List (Str × Addr)) (fp : List Addr), PE (X.blk s H scope (compEnvC scope cl C X.env) fp) vx tv)
    (hs : ∀ x, foldedSetIterable iter X.env x = pure x) (h : tDG o0 wi g tt tk tv (own.map (·.2)) σ H Q)
    (fin0 : ∀ D C t m H', Inv X pins σ H' t → Q (.ref D) H' → t.heap.Ns C m → FpOk X pins H' C → compPost (model X.prog X.w) X.A X.xe use Qf (.ref D) C (.ok .next) t) :
    wpAny (model X.prog X.w) X.A (comprehension (.DictComp kx vx [⟨tg, iter, ifs, 0⟩] scope p1) scope X.env p2 newDict false (eval iter X.env) use) Qf X.xe s := by
  have caught : ∀ y ∈ scope.names, y.2 = .free → ∃ c, X.env.cells.lookup y.1 = some c := fun y hy e => (ok.free y hy e).elim (fun k => I.ok.has _ (.inl k)) fun k => I.ok.has _ (.inr k)
  refine wpAny_comprehension_free (use := use) rfl hs (closure_ok caught) ok.kind (fun y hy e => by rw [ok.uniq y hy, e]) (thn (hi.run pins s σ H _ I h) fun xv t1 hx => thn hx fun itv t2 z => ?_)
  obtain ⟨it, fp, tn, J, H2, e, I2, T, at0, f2, q⟩ := z
  subst e
  refine wpAny_newObj_type (newEnv_comp ?_)
  generalize eD : t2.heap.objs.size = D
  have gone : H2 D = none := I2.hok.fresh (Nat.le_of_eq eD)
  obtain ⟨U, ⟨m0, u0⟩, turn⟩ := q D gone
  generalize e3 : ({ t2 with heap := t2.heap.push { cls := .type "dict", data := .dict #[] } } : Shared) = t3
  have I3 : Inv X pins σ (upd H2 D o0) t3 := by
    subst e3; subst eD
    exact I2.laid (t' := t2.toks) (fun b o e => Heap.get?_push_of_some _ e) (Nat.le_refl _) (he0.ok t2.heap I2.big)
  have k3 : t3.heap = t2.heap.push { cls := .type "dict", data := .dict #[] } := by subst e3; rfl
  have below : ∀ b ∈ fp, b < t2.heap.objs.size := fun b hb => let ⟨o, e, _⟩ := T.obj _ _ at0 b hb; Heap.lt_size e
  have f3 : ∀ b ∈ fp, FpOk X pins (upd H2 D o0) b ∧ b < t3.heap.objs.size := fun b hb => by
    have lt := below b hb
    have ne : b ≠ D := by rw [← eD]; exact Nat.ne_of_lt lt
    exact ⟨⟨by rw [upd_ne ne]; exact (f2 b hb).1, (f2 b hb).2⟩, by rw [k3, Heap.size_push]; exact Nat.lt_succ_of_lt lt⟩
  have at3 : tn 0 t3.heap := T.keep _ _ _ at0 fun b _ o e => by rw [k3]; exact Heap.get?_push_of_some _ e
  have I4 := block_start I3 ok nd f3
  generalize ecl : cellsFrom (t3.heap.objs.size + 1) scope.names (cloFrom X.env.cells scope.names []) = cl at I4
  have pg := hg t3 (upd H2 D o0) t3.heap.objs.size cl fp
  have pt := ht t3 (upd H2 D o0) t3.heap.objs.size cl fp
  have pk := hk t3 (upd H2 D o0) t3.heap.objs.size cl fp
  have pe := hv t3 (upd H2 D o0) t3.heap.objs.size cl fp
  subst ecl
  show codeAny _ _ (.compStart (.DictComp kx vx [⟨tg, iter, ifs, 0⟩] scope p1) 0 (.ref it) (.ref D) (compEnvC scope (cellsFrom (t3.heap.objs.size + 1) scope.names (cloFrom X.env.cells scope.names [])) t3.heap.objs.size X.env)) (compPost (model X.prog X.w) X.A X.xe use Qf (.ref D) t3.heap.objs.size) { t3 with heap := pushCells (t3.heap.push { cls := .type "dict", data := .dict #[] }) scope.names }
  have nofp : ∀ b ∈ fp, (upd H2 D o0) b = none := fun b hb => (f3 b hb).1.1
  generalize ee : compEnvC scope (cellsFrom (t3.heap.objs.size + 1) scope.names (cloFrom X.env.cells scope.names [])) t3.heap.objs.size X.env = ce at I4 pg pt pk pe ⊢
  have eL : ce.locals = t3.heap.objs.size := by subst ee; rfl
  generalize eH : upd H2 D o0 = H3 at I3 I4 pg pt pk pe u0 nofp f3
  generalize e4 : ({ t3 with heap := pushCells (t3.heap.push { cls := .type "dict", data := .dict #[] }) scope.names } : Shared) = t4 at I4 ⊢
  have at4 : tn 0 t4.heap := T.keep _ _ _ at3 fun b _ o e => by subst e4; exact pushCells_keeps _ _ _ _ (Heap.get?_push_of_some _ e)
  have still : ∀ {τ : L2.St} {H' : Hp} {t : Shared}, Inv (X.blk t3 H3 scope ce fp) [] τ H' t → (∀ b ∈ fp, H' b = none) → ∀ b ∈ fp, FpOk (X.blk t3 H3 scope ce fp) [] H' b := fun {τ H' t} J' n b hb => ⟨n b hb, (J'.ok.exf b hb).1, J'.ok.exfs b hb, .inl hb, fun x c e => (J'.ok.exf b hb).2 x c e, fun p hp => by cases hp⟩
  have loop : codeAny (model X.prog X.w) X.A (.compLoop (.DictComp kx vx [⟨tg, iter, ifs, 0⟩] scope p1) 0 (.ref it) (.ref D) ce) (compPost (model X.prog X.w) X.A X.xe use Qf (.ref D) t3.heap.objs.size) t4 := by
    refine compLoop_anyD (fun n t => ∃ i H', Inv (X.blk t3 H3 scope ce fp) [] (wipe σ (own.map (·.2))) H' t ∧ tn i t.heap ∧ (∀ b ∈ fp, H' b = none) ∧ U i n H') ?_ m0 ⟨0, H3, I4, at4, nofp, u0⟩
    rintro n t5 ⟨i, H5, I5, at5, n5, u5⟩
    rcases turn i n H5 u5 with ⟨stop, qq⟩ | ⟨go, Nx, more, step⟩
    · refine thnF (T.done (X.blk t3 H3 scope ce fp) rfl rfl rfl calm i [] t5 _ H5 (fun _ _ => False) I5 (still I5 n5) at5 stop) fun r t6 ⟨hr, I6⟩ => ?_
      subst hr
      have I7 : Inv X pins σ H5 t6 := I3.call' (ch := fp) I6.os I6.base I6.hok I6.bare fun b hb => let ⟨_, c1, c2, c3, c4, c5⟩ := (f3 b hb).1; ⟨c3, c1, c4, c5⟩
      have nC : H5 t3.heap.objs.size = none := by rw [← eL]; exact I6.free
      obtain ⟨m, hn, _⟩ := I6.loc
      have hn2 : t6.heap.Ns t3.heap.objs.size m := by rw [← eL]; exact hn
      exact fin0 D t3.heap.objs.size t6 m H5 I7 qq hn2 (I3.fpOk (Nat.le_refl _) nC)
    · refine thnF (T.item (X.blk t3 H3 scope ce fp) rfl rfl rfl calm i [] t5 _ H5 (fun _ _ => False) I5 (still I5 n5) at5 go) fun r t6 ⟨u, hr, h6⟩ => ?_
      subst hr
      refine thnF h6 fun _ t7 ⟨x, H7, I7, r7, y7, at7, n7⟩ => thnF (pg.run _ t7 _ H7 x u _ (I7.pinned (still I7 n7) (T.obj _ _ at7)) r7 (step x H7 y7)) fun _ t8 ⟨τ, H8, I8, hw, q8⟩ => thnF (pt.run _ t8 τ H8 _ I8 q8) fun b t9 ⟨H9, I9, q9⟩ => ?_
      have back : ∀ {t : Shared} {H' : Hp}, Inv (X.blk t3 H3 scope ce fp) ([] ++ pinsAt fp t7.heap) τ H' t → Nx H' → ∃ m, m < n ∧ ∃ i H', Inv (X.blk t3 H3 scope ce fp) [] (wipe σ (own.map (·.2))) H' t ∧ tn i t.heap ∧ (∀ b ∈ fp, H' b = none) ∧ U i m H' := fun {t H'} J' nx => by
        obtain ⟨m', hm, u'⟩ := more H' nx
        have hold : ∀ b ∈ fp, ∀ o, t7.heap.get? b = some o → t.heap.get? b = some o ∧ H' b = none := fun b hb o e => let z := J'.pin (b, o) (List.mem_append_right _ (List.mem_append_right _ (mem_pinsAt hb e))); ⟨z.1, z.2.1⟩
        refine ⟨m', hm, i + 1, H', (J'.unpinned (pins := [])).weak (by rw [← hw, wipe_length]) (fun j v e => (wipe_some (by rw [← hw] at e; exact e)).1), T.keep _ _ _ at7 fun b hb o e => (hold b hb o e).1, fun b hb => ?_, u'⟩
        obtain ⟨o, e, _⟩ := T.obj _ _ at7 b hb
        exact (hold b hb o e).2
      cases b with
      | false => rw [if_neg Bool.false_ne_true] at q9 ⊢; exact back I9 q9
      | true =>
        rw [if_pos rfl] at q9 ⊢
        exact thnF (pk.run _ t9 τ H9 _ I9 q9) fun z ta ⟨yk, Ha, Ia, ra, qa⟩ => thnF (pe.run _ ta τ Ha _ Ia qa) fun z2 tb ⟨yv, Hb, Ib, rb, H6, put, nx⟩ => dset (X := X.blk t3 H3 scope ce fp) hu Ib put ra rb fun tc Ic => back Ic nx
  exact codeAny_compStart_dict loop (T.self X.A 0 _ _ _ at4 loop)
theorem pe_dG {o0 : HO} {kx vx tg iter : Expr} {ifs : List Expr} {scope : Scope} {own : List (Str × Nat)} {pos : Pos} {wi : TI} {g : TG} {tt : TT} {tk tv : TE} (he0 : Emp o0) (hu : X.A.units + 1 < cLine) (calm : X.calm = true) (nd : X.N.Nodup) (hi : PI X tg iter wi) (ok : BlkOk X.N X.env.scope scope own)
    (hg : ∀ (s : Shared) (H : Hp) (C : Addr) (cl : List (Str × Addr)) (fp : List Addr), PG (X.blk s H scope (compEnvC scope cl C X.env) fp) tg g) (ht : ∀ (s : Shared) (H : Hp) (C : Addr) (cl : List (Str × Addr)) (fp : List Addr), PTs (X.blk s H scope (compEnvC scope cl C X.env) fp) ifs tt)
    (hk : ∀ (s : Shared) (H : Hp) (C : Addr) (cl : List (Str × Addr)) (fp : List Addr), PE (X.blk s H scope (compEnvC scope cl C X.env) fp) kx tk) (hv : ∀ (s : Shared) (H : Hp) (C : Addr) (cl : List (Str × Addr)) (fp : List Addr), PE (X.blk s H scope (compEnvC scope cl C X.env) fp) vx tv) (hs : ∀ x, foldedSetIterable iter X.env x = pure x := by intro _; rfl) :
    PE X (.DictComp kx vx [⟨tg, iter, ifs, 0⟩] scope pos) (tDG o0 wi g tt tk tv (own.map (·.2))) := ⟨fun pins s σ H Q I h => by
  rw [arm_eval_DictComp]
  exact dg_core he0 hu calm nd I hi ok hg ht hk hv hs h fun D C t m H' J' q hn f => ⟨m, hn, fun h'' sb => let ⟨f0, f1, f2, f3, f4, f5⟩ := f; ⟨.ref D, H', J'.turned (t' := t.toks) (fun b o hb e => (sb.2 b hb).trans e) f0 f1 f3 f4 f5, rfl, q⟩⟩⟩
/-- {k: v}, k a tuple -/
theorem pe_dT1 {k v : Expr} {tk tv : TE} {pos : Pos} (hu : X.A.units + 1 < cLine) (hk : PE X k tk) (hv : PE X v tv) : PE X (.Dict [some k] [v] pos)
    (fun σ H Q => ∀ p, H p = none → tk σ (upd H p (.dT [])) fun x H1 => tv σ H1 fun y H2 => H2 p = some (.dT []) ∧ ∃ ks b, x = .ref b ∧ H2 b = some (.tup (ks.map kV)) ∧ Q (.ref p) (upd H2 p (.dT [(ks, y)]))) := by
  refine ⟨fun pins s σ H Q I q => ?_⟩
  have hn := I.hok.fresh (Nat.le_refl s.heap.objs.size)
  have I1 := I.laid (a := s.heap.objs.size) (o := .dT []) (h' := s.heap.push { cls := .type "dict", data := .dict #[] }) (t' := s.toks) (fun _ _ q => Heap.get?_push_of_some _ q) (Nat.le_refl _) (dt_empty s.heap I.big)
  have shape := zip_pairTrees [some k] [v] X.env pos rfl rfl
  rw [arm_eval_Dict, shape, dictDisplay_pairs (pairTrees [some k] [v] X.env pos) (by intro z; cases z) (show (1 : Nat) < 17 by decide)]
  refine wpAny_bind (wpAny_standAt (wpAny_bind (wpAny_subDictH (knd := tupleKind (mixKind X.prog X.w)) (Q := fun d t => wpAny (model X.prog X.w) X.A (pure (Value.ref d)) _ X.xe t) (Nat.lt_of_succ_lt hu) (show (1 : Nat) ≤ 15 by decide) (pairTrees_cons_walk (thn (hk.run pins _ σ _ _ I1 (q _ hn)) fun u t1 ⟨x, H1, J1, rx, q1⟩ => thn (hv.run pins t1 σ H1 _ J1 q1) fun u2 t2 ⟨y, H2, J2, ry, e, ks, b, ex, eb, q2⟩ => pairTrees_nil_walk ?_)))))
  subst ex
  obtain rfl : u = Value.ref b := rx
  obtain ⟨z, ns, xs, rel, dd⟩ := dt_of J2.hok e
  cases rel
  refine ⟨[(ks, b, u2)], ⟨rfl, rfl, key_of J2.hok eb, trivial⟩, dd, fun h' tk dd2 sb => wpAny_pure ⟨.ref s.heap.objs.size, _, ?_, rfl, q2⟩⟩
  obtain ⟨ob, es, ep, hq, a2, a3, a4, _, a5⟩ := dd2
  have cut : ∀ c ys, H2 c = some (.tup ys) → upd H2 s.heap.objs.size (.dT [(ks, y)]) c = some (.tup ys) := fun c ys ec => by
    rw [upd_ne (ne_of ec e (fun z => nomatch z))]; exact ec
  exact d_write J2 (by rw [e]; exact True.intro) sb ⟨ob, hq⟩ ⟨(show (1 : Nat) ≤ sizeLine by decide), ns, [(ks, b, u2)], .cons ⟨rfl, cut _ _ eb, ry⟩ .nil, ob, es, ep, hq, a2, a3, a4, a5⟩
end
end DW
set_option Elab.async false
set_option linter.all false
set_option maxRecDepth 100000
set_option maxHeartbeats 4000000
namespace DW
open PySem PySem.Spec L2

section
variable {K : PySem.W.Frag} {w : Option Dw} {G : Gd} {F F1 F2 H H1 H2 : Hp} {σ : L2.St} {δ : DEnv}
variable {X : Cx} {W : WX} {st : Bool} {tg iter e a b c elt o kx vx : Expr} {es rest : List Expr} {we wa wb wc wk wv wo : WE'} {wt wu : WT} {waa : WA} {pos p apos cpos : Pos} {s : Stmt} {ws wss : WS}
/-! ### dicts made -/
theorem new_dict (x0 : Ext w F H F H) {p : Addr} {u : HO} (hp : H p = none) : Ext w F H F (upd H p u) ∧ F p = none ∧ ∀ d, w = some d → d.a ≠ p := by
  refine ⟨x0.own hp, x0.le.none hp, fun d e z => ?_⟩
  obtain ⟨i, r, c, h, _⟩ := (x0.dr d e).at_
  rw [z, hp] at h; cases h
def wNewK : WE' := fun _ P _ => P (.oK [])
def wNewT : WE' := fun _ P _ => P (.oT [])
theorem de_newK : DE X G W (.Dict [] [] pos) wNewK := PE.imp pe_dnewK fun σ H Q ⟨F, δ, P, PX, S, q, k, xk⟩ p hp => by
  obtain ⟨x1, n, nd⟩ := new_dict (u := .dK []) S.ext.stay hp
  exact k _ F _ (.oK []) x1 ⟨p, [], rfl, hp, upd_same, n, nd, .nil⟩ q
theorem de_newT : DE X G W (.Dict [] [] pos) wNewT := PE.imp pe_dnewT fun σ H Q ⟨F, δ, P, PX, S, q, k, xk⟩ p hp => by
  obtain ⟨x1, n, nd⟩ := new_dict (u := .dT []) S.ext.stay hp
  exact k _ F _ (.oT []) x1 ⟨p, [], rfl, hp, upd_same, n, nd, .nil⟩ q
def wDispT (wk wv : WE') : WE' := fun δ P PX => wk δ (fun r => ∃ ds ks, r = .im (.tuple ds) ∧ keysOf ds = some ks ∧ wv δ (fun r2 => ∃ d, r2.dat = some d ∧ P (.oT [(ks, d)])) PX) PX
theorem de_dispT (hu : X.A.units + 1 < cLine) (hk : DE X G W kx wk) (hv : DE X G W vx wv) : DE X G W (.Dict [some kx] [vx] pos) (wDispT wk wv) := PE.imp (pe_dT1 hu hk hv) fun σ H Q ⟨F, δ, P, PX, S, q, k, xk⟩ p hp => by
  obtain ⟨x0, n, nd⟩ := new_dict (u := .dT []) S.ext.stay hp
  refine dT.next S x0 xk q fun x F1 H1 r x1 q1 ⟨ds, ks, e, ek, p1⟩ => ?_
  subst e
  refine dT.next S (x0.trans x1) xk p1 fun y F2 H2 r2 x2 q2 ⟨d, ed, p2⟩ => ?_
  obtain ⟨F3, x3, _, rd⟩ := q2.freeze x2 ed
  have x13 := x1.trans x3
  obtain ⟨h', n'⟩ := x13.keepN (p := p) upd_same n nd
  have q1' := q1.to x3
  obtain ⟨b, us, rfl, hb, lb⟩ := RepR.tuple (K := X.K) (w := G.w) (H := upd H p (.dT [])) x3.le q1' (xs := ds) rfl
  obtain rfl := RepL.keys lb ek
  refine ⟨h', ks, b, rfl, x3.le _ _ hb, ?_⟩
  have xw : Ext G.w F H F3 (upd H2 p (.dT [(ks, y)])) := (x0.trans x13).write hp h' n' nd
  exact k _ F3 _ (.oT [(ks, d)]) xw ⟨p, _, rfl, hp, upd_same, n', nd, .cons rd .nil⟩ p2
def dcGo (wg : WG) (wt : WT) (wk wv : WE') (P : SV → Prop) (δ0 : DEnv) : List D → SV → Prop
  | [], s => P s
  | d :: ds, s => wg d δ0 fun δ1 => wt δ1 (fun b => if b = true then wk δ1 (fun r2 => ∃ kd, r2 = .im kd ∧ wv δ1 (fun r => ∃ v, r.dat = some v ∧ putE s kd v fun s1 => dcGo wg wt wk wv P δ0 ds s1) fun _ => True) (fun _ => True) else dcGo wg wt wk wv P δ0 ds s) fun _ => True
def SV.rO : SV → R
  | .im d => .im d
  | .ol xs => .ol xs
  | .oK xs => .oK xs
  | .oT xs => .oT xs
  | .drw => .drw
def wDc (s0 : SV) (wi : WI) (wg : WG) (wt : WT) (wk wv : WE') (vs : List Nat) : WE' := fun δ P PX => wi δ (fun items => dcGo wg wt wk wv (fun s => P s.rO) (wipeD δ vs) items s0) PX
/-- the empty dict of the kind -/
def Em (o0 : HO) (s0 : SV) : Prop := (o0 = .dK [] ∧ s0 = .oK []) ∨ (o0 = .dT [] ∧ s0 = .oT [])
theorem Em.emp {o0 : HO} {s0 : SV} (e : Em o0 s0) : Emp o0 := e.elim (fun z => .inl z.1) fun z => .inr z.1
def DictAt (K : PySem.W.Frag) (F : Hp) (u : HO) : SV → Prop
  | .oK kvs => ∃ vs, u = .dK vs ∧ RepKV K F vs kvs
  | .oT kvs => ∃ vs, u = .dT vs ∧ RepKV K F vs kvs
  | _ => False
theorem DictAt.nt {u : HO} {s : SV} (d : DictAt K F u s) : ∀ vs, u ≠ .tup vs := fun vs z => by
  subst z
  cases s with
  | oK kvs => obtain ⟨_, e, _⟩ := d; cases e
  | oT kvs => obtain ⟨_, e, _⟩ := d; cases e
  | _ => exact d
theorem DictAt.mono {u : HO} {s : SV} (s1 : Sub F F1) (d : DictAt K F u s) : DictAt K F1 u s := by
  cases s with
  | oK kvs => obtain ⟨vs, e, l⟩ := d; exact ⟨vs, e, l.mono s1⟩
  | oT kvs => obtain ⟨vs, e, l⟩ := d; exact ⟨vs, e, l.mono s1⟩
  | _ => exact d
theorem dc_of {o0 : HO} {s0 : SV} {wi : WI} {wg : WG} {ts vs : List Nat} {tt : TT} {tk tv : TE} (em : Em o0 s0) (hts : ∀ t ∈ ts, t ∈ vs) (ht : ∀ σ H Q, dTT K G wTrue wt σ H Q → tt σ H Q) (hk : ∀ σ H Q, dT K G wTrue wk σ H Q → tk σ H Q) (hv : ∀ σ H Q, dT K G wTrue wv σ H Q → tv σ H Q)
    {σ : L2.St} {H : Hp} {Q : VK} (h : dT K G W (wDc s0 wi wg wt wk wv vs) σ H Q) : tDG o0 (dTI K G W st wi) (dGT K G ts wg) tt tk tv vs σ H Q := by
  obtain ⟨F, δ, P, PX, S, q, k, xk⟩ := h
  refine ⟨F, δ, _, PX, S, q, fun J C F1 H1 items x1 c1 dw stc p1 => fun D hD => ?_, xk⟩
  obtain ⟨x1', n1, nd⟩ := new_dict (u := o0) x1.stay hD
  have d0 : DictAt K F1 o0 s0 := by
    rcases em with ⟨rfl, rfl⟩ | ⟨rfl, rfl⟩
    · exact ⟨[], rfl, .nil⟩
    · exact ⟨[], rfl, .nil⟩
  refine ⟨fun i m H => m = items.length - i ∧ i ≤ items.length ∧ ∃ F u sv, Ext G.w F1 H1 F H ∧ H D = some u ∧ F D = none ∧ DictAt K F u sv ∧ dcGo wg wt wk wv (fun s => P s.rO) (wipeD δ vs) (items.drop i) sv, ⟨_, rfl, Nat.zero_le _, F1, o0, s0, x1', upd_same, n1, d0, p1⟩, ?_⟩
  rintro i m H ⟨rfl, hi, F, u, sv, x2, hDl, hDf, da, go⟩
  obtain ⟨w1, w2, w3⟩ := dw F H (stc.ext c1 x2) x2.stay
  by_cases hlt : i < items.length
  · refine .inr ⟨w1 i hlt, fun H' => i + 1 ≤ items.length ∧ ∃ F u sv, Ext G.w F1 H1 F H' ∧ H' D = some u ∧ F D = none ∧ DictAt K F u sv ∧ dcGo wg wt wk wv (fun s => P s.rO) (wipeD δ vs) (items.drop (i + 1)) sv, fun H' n => ⟨items.length - (i + 1), by omega, rfl, n⟩, fun x H' y => ?_⟩
    have hd : items[i]? = some items[i] := List.getElem?_eq_getElem hlt
    have hdrop : items.drop i = items[i] :: items.drop (i + 1) := List.drop_eq_getElem_cons hlt
    rw [hdrop] at go
    obtain ⟨F', x3, rd⟩ := w3 i x H' _ hd y
    have S' : RepS K G F' H' (L2.wipe σ vs) (wipeD δ vs) := (S.to (x1.trans (x2.trans x3))).wipe vs
    refine ⟨F', wipeD δ vs, _, _, S', rd, go, fun σ2 δ2 o2 S2 p2 => ⟨wipe_only o2 hts, ?_⟩⟩
    refine ht _ _ _ ⟨F', δ2, _, _, S2, p2, fun b F3 H3 x4 p3 => ?_, xok_true⟩
    cases b with
    | false =>
      rw [if_neg Bool.false_ne_true] at p3 ⊢
      have x5 := x3.trans x4
      obtain ⟨h', n'⟩ := x5.keepN hDl hDf nd da.nt
      exact ⟨hlt, F3, u, sv, x2.trans x5, h', n', da.mono x5.fs, p3⟩
    | true =>
      rw [if_pos rfl] at p3 ⊢
      refine hk _ _ _ ⟨F3, δ2, _, _, S2.to x4, p3, fun yv F4 H4 r x5 q5 ⟨kd, ek, p4⟩ => ?_, xok_true⟩
      subst ek
      refine hv _ _ _ ⟨F4, δ2, _, _, (S2.to x4).to x5, p4, fun zv F5 H5 r x6 q6 ⟨v, er, pe⟩ => ?_, xok_true⟩
      obtain ⟨F6, x7, _, rd'⟩ := q6.freeze x6 er
      have x8 := ((x3.trans x4).trans x5).trans x7
      obtain ⟨h', n'⟩ := x8.keepN hDl hDf nd da.nt
      have da' := da.mono x8.fs
      have q5' := RepD.mono x7.fs q5
      have fin : ∀ {u' : HO} {sv' : SV}, DictAt K F6 u' sv' → dcGo wg wt wk wv (fun s => P s.rO) (wipeD δ vs) (items.drop (i + 1)) sv' → i + 1 ≤ items.length ∧ ∃ F u sv, Ext G.w F1 H1 F (upd H5 D u') ∧ (upd H5 D u') D = some u ∧ F D = none ∧ DictAt K F u sv ∧ dcGo wg wt wk wv (fun s => P s.rO) (wipeD δ vs) (items.drop (i + 1)) sv := fun {u' sv'} da2 p5 =>
        ⟨hlt, F6, u', sv', (x2.trans x8).write hD h' n' nd, upd_same, n', da2, p5⟩
      cases sv with
      | oK kvs =>
        obtain ⟨kk, ek, hl, p5⟩ := pe
        obtain ⟨us, rfl, l⟩ := da'
        obtain rfl := RepD.key q5' ek
        exact ⟨_, DPut.k h' (by rw [RepKV.length l]; exact hl), fin (sv' := .oK (putD kvs kk v)) ⟨_, rfl, l.put rd'⟩ p5⟩
      | oT kvs =>
        obtain ⟨ds, ks, rfl, ek, hl, p5⟩ := pe
        obtain ⟨us, rfl, l⟩ := da'
        obtain ⟨b, vs', rfl, hb, lb⟩ := RepR.tuple (K := K) (w := G.w) (H := H5) x7.le (r := .im (.tuple ds)) q5' (xs := ds) rfl
        obtain rfl := RepL.keys lb ek
        exact ⟨_, DPut.t h' (x7.le _ _ hb) (by rw [RepKV.length l]; exact hl), fin (sv' := .oT (putD kvs ks v)) ⟨_, rfl, l.put rd'⟩ p5⟩
      | _ => exact pe.elim
  · have hn : i = items.length := by omega
    subst hn
    rw [List.drop_length] at go
    refine .inl ⟨w2, k _ F H sv.rO (x1.trans x2) ?_ go⟩
    cases sv with
    | oK kvs => obtain ⟨us, rfl, l⟩ := da; exact ⟨D, us, rfl, x1.none hD, hDl, hDf, nd, l⟩
    | oT kvs => obtain ⟨us, rfl, l⟩ := da; exact ⟨D, us, rfl, x1.none hD, hDl, hDf, nd, l⟩
    | _ => exact da.elim
theorem de_dc {o0 : HO} {s0 : SV} {scope : Scope} {own : List (Str × Nat)} {wi : WI} {wg : WG} {ts : List Nat} (em : Em o0 s0) (hu : X.A.units + 1 < cLine) (hc : X.calm = true) (hN : X.N.Nodup) (hi : DI X G W st tg iter wi) (ok : BlkOk X.N X.env.scope scope own)
    (hg : ∀ (s : Shared) (H : Hp) (C : Addr) (cl : List (Str × Addr)) (fp : List Addr), DG (X.blk s H scope (compEnvC scope cl C X.env) fp) G ts tg wg)
    (hk : ∀ (s : Shared) (H : Hp) (C : Addr) (cl : List (Str × Addr)) (fp : List Addr), DE (X.blk s H scope (compEnvC scope cl C X.env) fp) G wTrue kx wk) (hv : ∀ (s : Shared) (H : Hp) (C : Addr) (cl : List (Str × Addr)) (fp : List Addr), DE (X.blk s H scope (compEnvC scope cl C X.env) fp) G wTrue vx wv)
    (hts : ∀ t ∈ ts, t ∈ own.map (·.2) := by decide) (hs : ∀ x, foldedSetIterable iter X.env x = pure x := by intro _; rfl) : DE X G W (.DictComp kx vx [⟨tg, iter, [], 0⟩] scope pos) (wDc s0 wi wg wtYes wk wv (own.map (·.2))) :=
  PE.imp (pe_dG em.emp hu hc hN hi ok hg (fun _ _ _ _ _ => pts_nil) hk hv hs) fun σ H Q h => dc_of em hts (fun σ H Q ⟨F, δ, P, PX, S, q, k, xk⟩ => k true F H S.ext.stay q) (fun _ _ _ h => h) (fun _ _ _ h => h) h
/-! ### len of a dict -/
def kLenK : KC := fun rs P => ∃ r kvs, rs = [r] ∧ r.dK = some kvs ∧ P (.im (.int (kvs.length : Nat)))
def kLenT : KC := fun rs P => ∃ r kvs, rs = [r] ∧ r.dT = some kvs ∧ P (.im (.int (kvs.length : Nat)))
theorem callD_lenT : CallD K rLenT kLenT := by
  rintro w H0 F H vs rs P Q x0 q ⟨r, kvs, rfl, e, p⟩ k
  cases q with
  | cons a t =>
    cases t
    obtain ⟨pp, us, rfl, h, n, l⟩ := a.isT e
    exact ⟨pp, us, rfl, h, by rw [RepKV.length l]; exact k _ F H (.im _) x0 (.int _) p⟩
theorem callD_lenK : CallD K (fun xs H Q => ∃ a kvs, xs = [V.ref a] ∧ H a = some (.dK kvs) ∧ Q (.int kvs.length) H) kLenK := by
  rintro w H0 F H vs rs P Q x0 q ⟨r, kvs, rfl, e, p⟩ k
  cases q with
  | cons a t =>
    cases t
    obtain ⟨pp, us, rfl, h, n, l⟩ := a.isK e
    exact ⟨pp, us, rfl, h, by rw [RepKV.length l]; exact k _ F H (.im _) x0 (.int _) p⟩
/-! ### a text times an int -/
def repS (s : Str) (n : Int) : Str := ⟨(List.replicate n.toNat s.cps).foldl (· ++ ·) #[]⟩
theorem rep_size (a : Array Nat) : ∀ (m : Nat) (acc : Array Nat), ((List.replicate m a).foldl (· ++ ·) acc).size = acc.size + m * a.size
  | 0, acc => by simp
  | m + 1, acc => by rw [List.replicate_succ, List.foldl_cons, rep_size a m, Array.size_append, Nat.succ_mul]; omega
theorem op_mulS : OpR X (binaryOp .Mult) (fun x y H Q => ∃ (s : Str) (n : Int), x = .str s ∧ y = .int n ∧ 0 ≤ n ∧ n ≤ 1000 ∧ s.length ≤ 1000 ∧ Q (.str (repS s n)) H) := by
  intro pins s σ H x y v u Q I rx ry h
  obtain ⟨z, n, rfl, rfl, h0, h1, h2, q⟩ := h
  obtain ⟨t, rfl⟩ := rx
  obtain ⟨t2, rfl⟩ := ry
  have big : z.length * n.toNat ≤ 1000000 := by
    have := Nat.mul_le_mul h2 (show n.toNat ≤ 1000 by omega)
    omega
  have c0 : (decide (n < -(2 ^ 63 : Int)) || decide (n ≥ 2 ^ 63)) = false := by
    rw [decide_eq_false (by omega), decide_eq_false (by omega)]; rfl
  refine P.mul_str c0 (fun a _ => ?_) (fun a _ => ?_) ?_
  · intro bad
    have e1 : ((z.length : Int)) * n ≤ 1000000 := by
      have h3 : ((z.length * n.toNat : Nat) : Int) ≤ 1000000 := Int.ofNat_le.mpr big
      rw [Int.natCast_mul, Int.toNat_of_nonneg h0] at h3
      exact h3
    have e2 := Int.le_ediv_of_mul_le (c := n) (a := (z.length : Int)) (b := 2 ^ 63 - 1) (by omega) (by omega)
    omega
  · unfold Builtin.Str.tooLong
    rw [sizeLine_eq]
    exact decide_eq_false (by omega)
  · have fin : ∀ u : Tok, ∀ s2 : Shared, Inv X pins σ H s2 → ∃ y H', Inv X pins σ H' s2 ∧ RelV y (Value.str (repS z n) u) ∧ Q y H' := fun u s2 I2 => ⟨.str (repS z n), H, I2, ⟨u, rfl⟩, q⟩
    by_cases c1 : n < 1
    · rw [if_pos c1]
      have e : repS z n = Str.empty := by
        have : n = 0 := by omega
        subst this
        rfl
      rw [e] at fin
      exact ⟨by decide, fin _ _ (I.tok _)⟩
    · rw [if_neg c1]
      by_cases c2 : (n == 1 || z.length == 0) = true
      · rw [if_pos c2]
        have e : repS z n = z := by
          simp only [Bool.or_eq_true, beq_iff_eq] at c2
          rcases c2 with rfl | c2
          · simp [repS]
          · have e0 : z.cps = #[] := Array.eq_empty_of_size_eq_zero c2
            have : ∀ m : Nat, (List.replicate m (#[] : Array Nat)).foldl (· ++ ·) #[] = #[] := fun m => by
              induction m with
              | zero => rfl
              | succ m ih => rw [List.replicate_succ, List.foldl_cons]; exact ih
            unfold repS
            rw [e0, this]
            cases z
            simp_all
        rw [e] at fin
        exact fin _ _ I
      · rw [if_neg c2]
        refine ⟨?_, fin _ _ (I.tok _)⟩
        show (repS z n).cps.size ≤ sizeLine
        unfold repS
        rw [rep_size, sizeLine_eq]
        have b2 : n.toNat * z.cps.size ≤ 1000 * 1000 := Nat.mul_le_mul (by omega) h2
        show 0 + _ ≤ _
        omega
def kMulS : KO := fun r1 r2 P => ∃ s n, r1 = .im (.str s) ∧ r2 = .im (.int n) ∧ 0 ≤ n ∧ n ≤ 1000 ∧ s.length ≤ 1000 ∧ P (.im (.str (repS s n)))
theorem opd_mulS : OpD K (fun x y H Q => ∃ (s : Str) (n : Int), x = .str s ∧ y = .int n ∧ 0 ≤ n ∧ n ≤ 1000 ∧ s.length ≤ 1000 ∧ Q (.str (repS s n)) H) kMulS := by
  rintro w H0 F H x y r1 r2 P Q x0 q1 q2 ⟨s, n, rfl, rfl, h0, h1, h2, p⟩ k
  cases q1; cases q2
  exact ⟨s, n, rfl, rfl, h0, h1, h2, k _ F H (.im _) x0 (.str _) p⟩
theorem de_mulS (ha : DE X G W a wa) (hb : DE X G W b wb) : DE X G W (.BinOp a .Mult b pos) (wOp kMulS wa wb) := de_op op_mulS opd_mulS ha hb
/-! ### a list taken apart -/
def wgUnl (n : Nat) (gs : WGs) : WG := fun d δ P => ∃ ds, d = .list ds ∧ ds.length = n ∧ gs ds δ P
theorem dg_unl {ts : List Nat} {gs : WGs} {n k : Nat} (hc : X.calm = true) (h : DGs X G ts es gs) (hn : (assignEach es X.env).length = n := by rfl) (hst : (assignEach es X.env).findIdx? (·.1) = none := by rfl) : DG X G ts (.Tuple es k pos) (wgUnl n gs) :=
  PG.imp (pg_lst hc h hn hst) fun v σ H Q ⟨F, δ, d, P, S, r, ⟨ds, e, hl, p⟩, k⟩ => by
    subst e
    cases r with
    | lst ha l => exact ⟨_, _, rfl, .inl (.inl (S.ext.le _ _ ha)), by rw [RepL.length l]; exact hl, F, δ, ds, P, S, l, p, k⟩
end
end DW
set_option Elab.async false
set_option linter.all false
set_option maxRecDepth 100000
set_option maxHeartbeats 4000000
namespace DW
open PySem PySem.Spec L2

section
variable {K : PySem.W.Frag} {w : Option Dw} {G : Gd} {F F1 F2 H H1 H2 : Hp} {σ : L2.St} {δ : DEnv}
variable {X : Cx} {W : WX} {st : Bool} {tg iter e a b c elt o kx vx : Expr} {es rest : List Expr} {we wa wb wc wk wv wo : WE'} {wt wu : WT} {waa : WA} {pos p np pos' apos cpos : Pos} {s b₀ : Stmt} {body suite : List Stmt} {ws wss : WS}
/-- X(), X an own exception class without own __init__ -/
theorem pmk_own0 {C : Addr} {bmB : List Value} {B newId initId : String} {x : Str} {p : Pos} (F : ExcBaseFacts B newId initId bmB) (q : PySem.W.excIn X.K C bmB newId = true) (gC : X.mg x = some (.ref C)) (kC : PySem.W.keepIn X.K (.ref C) = true)
    (r : Raises X (.ref C)) (hg : Gl X x) (hdb : (x == ("__debug__" : Str)) = false := by decide) : PMk X (.Call (.Name x p) [] [] pos) (fun _ H Q => Q (.ref C) none H) := fun pins s σ H Q I h => by
  refine wpAny_Call_Name_kw (ld_glob I hg gC (PySem.W.callWith_K0 I.kIn kC ?_) hdb)
  obtain ⟨bm, N, nm, qn, bs, hdct, sn, sub, ab, col, dd, k0, k1, k2, k3, k5, mN, hC, hN, hni, T⟩ := exc_obj I.kIn q
  refine wpAny_call_exc_subT F T hC hN hni (fun h' e hm => ?_) (Nat.zero_le _)
  exact mk_of I hm r h (I.hok.gone hm.new)
/-- raise X() -/
def sRaise0 (C : Addr) : WS := fun E _ => E.ex ⟨C, []⟩
theorem ds_raise0 {C : Addr} (hc : X.calm = true) (tk : Takes X W) (he : PMk X e (fun _ H Q => Q (.ref C) none H)) : DS X G W (.Raise (some e) none pos) (sRaise0 C) := PS.imp (ps_raise hc tk he) fun D σ H ⟨F, δ, E, S, q, k⟩ =>
  k.ex ⟨C, []⟩ F H (.ref C) none σ S.ext ⟨rfl, fun z => absurd rfl z⟩ q
/-- try: body, except c: suite; the suite returns -/
def sTry (m : Addr → Option Bool) (ws wss : WS) : WS := fun E δ => ws { E with ex := fun x => (m x.C = some true ∧ ∀ n, wss { E with nx := fun _ => False, bk := fun _ => False, ct := fun _ => False } (List.replicate n none)) ∨ (m x.C = some false ∧ E.ex x) } δ
theorem RepS.bare (x : Ext G.w G.F0 G.H0 F H) (σ : L2.St) : RepS K G F H σ (List.replicate σ.length none) := by
  have no : ∀ (i : Nat) (s : SV), (List.replicate σ.length (none : Option SV))[i]? = some (some s) → False := fun i s e => by
    rw [List.getElem?_replicate] at e
    split at e <;> cases e
  exact ⟨x, by rw [List.length_replicate], fun i s e => (no i s e).elim, fun i s p e => (no i s e).elim, fun i j s t p _ e => (no i s e).elim⟩
theorem ds_try {x : Str} {C : Addr} {m : Addr → Option Bool} (hm : ∀ D, m D = PySem.W.exmOne X.K (.ref D) (.ref C)) (hs : X.stack = X.env :: X.outer) (hf : X.env.frame = some X.env.locals) (hc : Names X x (.ref C)) (tk : Takes X W)
    (hb : ∀ (W' : WX) (pn : List (Addr × Obj)) (xe : Value → Shared → Prop), Takes (X.tr pn xe) W' → DSs (X.tr pn xe) G W' body ws) (hsu : ∀ (a : Addr) (pn : List (Addr × Obj)), DSs (X.suite a pn) G wTrue (b₀ :: suite) wss) :
    DS X G W (.Try body [.ExceptHandler (some (.Name x np)) none (b₀ :: suite) pos'] [] [] pos) (sTry m ws wss) :=
  PS.imp (ps_try_only (tb := fun W' => dTS X.K G W' ws) (ts := fun _ _ _ => dTS X.K G wTrue wss) (Wout := W) hs hf hc tk (fun W' pn xe tk' _ => hb W' pn xe tk') (fun a oe cls d pn _ _ => hsu a _)) fun D σ H ⟨F, δ, E, S, q, k⟩ => by
    refine ⟨F, δ, _, S, q, k.nx, k.bk, k.ct, k.rt, fun x' F' H' cls d σ' xt rx px => ?_⟩
    obtain ⟨rfl, rx2⟩ := rx
    rcases px with ⟨em, px⟩ | ⟨em, px⟩
    · refine ⟨true, (hm _).symm.trans em, fun _ a ha => ⟨F', _, _, RepS.bare xt σ', px σ'.length, fun _ _ _ _ _ _ z => z.elim, fun _ _ _ _ _ _ z => z.elim, fun _ _ _ _ _ _ z => z.elim, k.rt, fun _ _ _ _ _ _ _ _ _ => trivial⟩, (fun z => nomatch z)⟩
    · exact ⟨false, (hm _).symm.trans em, (fun z => nomatch z), fun _ => k.ex x' F' H' _ d σ' xt ⟨rfl, rx2⟩ px⟩
/-- nothing is let out: a def with a try -/
abbrev wFalse : WX := fun _ _ _ _ => False
theorem takes_nox : Takes X.nox wFalse := fun u s' ⟨_, _, _, _, _, _, _, _, _, _, _, _, _, _, _, _, z⟩ => z.elim
theorem takes_tr {xe : Value → Shared → Prop} {pn : List (Addr × Obj)} {W' : WX} (tk : Takes (X.tr pn xe) W') : Takes (X.tr pn xe) W' := tk
end
section
variable {P : Program} {w : World} {K : PySem.W.Frag} {mg : Str → Option Value} {base : Heap}
theorem dfn_okF {x qual : Str} {st : Stmt} {f : Addr} {fd : FuncData} {N ps : List Str} {k n : Nat} {S : DSpec} {ws : WS} (Fn : Fun K x qual st f fd) (sc : FnScope N ps (defScope st)) (hn : ps.length = n) (hN : n ≤ N.length)
    (body : ∀ (cdv : Value) (A : Around) (outer : List Env) (s : Shared) (H : Hp) (E : XK) (G : Gd), Room k (A.deeper (PyProof.Rows.envOfC qual (defScope st) s.heap.objs.size f cdv)) → DSs (cxOf CX0 P w K mg base N qual (defScope st) f cdv A outer s H E).nox G wFalse (defBody st) ws)
    (sem : ∀ rs P, rs.length = n → rs.all plainR = true → S rs P (fun _ => False) → ws (fnEnds P fun _ => False) (startD N rs)) (hS : ∀ rs P PX, S rs P PX → S rs P fun _ => False) : FnOk P w K mg base CX0 (k + 1) f fd ps (dSp K n S) := by
  refine Fn.ok sc (fun vs H Q E h => (dSp_len vs H Q E h).trans hn.symm) fun cdv A outer s H vs Q E hr h => ?_
  obtain ⟨dw, F, rs, PP, PX, x, q, g, hl, hs, kq, _⟩ := h
  refine ⟨_, body cdv A outer s H E ⟨dw, F, H⟩ hr, F, _, fnEnds PP fun _ => False, start_ok x q (by rw [hl]; exact hN), sem rs PP hl g (hS _ _ _ hs), ?_⟩
  refine ⟨fun σ' F' H' δ' _ S' p => kq .non F' H' (.im .none) S'.ext .non rfl p, fun _ _ _ _ _ _ z => z.elim, fun _ _ _ _ _ _ z => z.elim, fun v F' H' r x' r' ⟨gv, p⟩ => kq v F' H' r x' r' gv p, fun _ _ _ _ _ _ _ _ z => z.elim⟩
/-- a def of the law's, by its name -/
structure CalX (P : Program) (w : World) (K : PySem.W.Frag) (mg : Str → Option Value) (base : Heap) (k : Nat) (x : Str) (sp : Sp) : Prop where
  ex : ∃ (f : Addr) (fd : FuncData) (ps : List Str), FnOk P w K mg base (L2.CX P w) k f fd ps sp ∧ mg x = some (.ref f) ∧ PySem.W.keepIn K (.ref f) = true ∧ Binds K fd ps []
end
section
variable {X : Cx} {G : Gd} {W : WX} {e : Expr} {es : List Expr} {waa : WA} {pos p : Pos} {x : Str} {n k j : Nat} {S : DSpec}
/-- a call of a def that lets nothing out -/
theorem de_c (c : C8.Cal X.prog X.w X.K X.mg X.base k x (dSp X.K n S) []) (hS : ∀ rs P PX PX', S rs P PX → S rs P PX') (hr : Room j X.A) (hk : k ≤ j) (hg : Gl X x) (ha : DA X G W (e :: es) waa)
    (hdb : (x == ("__debug__" : Str)) = false := by decide) (he : starEach (e :: es) X.env = (false, eval e X.env) :: starEach es X.env := by rfl) (hpl : (backTo pos (starEach es X.env)).any (·.1) = false := by rfl) : DE X G W (.Call (.Name x p) (e :: es) [] pos) (wCallF n S waa) :=
  de_call (C8.pe_c c hr hk hg ha hdb he hpl) hS
/-- a call of a def that may raise -/
theorem de_cX (c : CalX X.prog X.w X.K X.mg X.base k x (dSp X.K n S)) (tk : Takes X W) (hr : Room j X.A) (hk : k ≤ j) (hg : Gl X x) (ha : DA X G W (e :: es) waa)
    (hdb : (x == ("__debug__" : Str)) = false := by decide) (he : starEach (e :: es) X.env = (false, eval e X.env) :: starEach es X.env := by rfl) (hpl : (backTo pos (starEach es X.env)).any (·.1) = false := by rfl) : DE X G W (.Call (.Name x p) (e :: es) [] pos) (wCallF n S waa) := by
  obtain ⟨f, fd, ps, F, hm, kp, b⟩ := c.ex
  exact de_callX (pe_callS F (hr.mono hk) hg hm kp b (passAt tk) ha hdb he hpl)
end
end DW
set_option Elab.async false
set_option linter.all false
set_option maxRecDepth 100000
set_option maxHeartbeats 4000000
namespace DW
open PySem PySem.Spec L2
/-! ### the law's drawer: the script is copied, numbers are handed out -/
abbrev rAbs : List V → Hp → VK → Prop := fun xs H Q => ∃ i, xs = [.int i] ∧ Q (.int (if i < 0 then -i else i)) H
abbrev rInt : List V → Hp → VK → Prop := fun xs H Q => (∃ i, xs = [.int i] ∧ Q (.int i) H) ∨ ∃ k, xs = [.bl k] ∧ Q (.int (if k then 1 else 0)) H
abbrev rListOf (K : PySem.W.Frag) : List V → Hp → VK → Prop := fun xs H Q => ∃ p ys, xs = [.ref p] ∧ (SqL K H p ys ∨ SqT K H p ys) ∧ ∀ l, H l = none → Q (.ref l) (upd H l (.lst ys))
abbrev rAdd : R2 := rI0 fun i j => .int (i + j)
abbrev rLt : R2 := rI0 fun i j => .bl (decide (i < j))
abbrev rGt : R2 := rI0 fun i j => .bl (decide (j < i))
abbrev rMod : R2 := rI (fun _ j => 0 < j) fun i j => .int (i % j)
abbrev rMul : R2 := rI CMul fun i j => .int (i * j)
abbrev rPow : R2 := rI CPow fun i j => .int (i ^ j.toNat)
abbrev rDiv : R2 := rI CDiv fun i j => .int (i / j)
abbrev rDivN : R2 := fun x y H Q => ∃ n m : Nat, x = .int (n : Int) ∧ y = .int (m : Int) ∧ (1 ≤ m ∧ m < 1073741824) ∧ Q (.int ((n / m : Nat) : Int)) H
abbrev rd (K : PySem.W.Frag) (j : Int) : TE := tOp (rIxL K) (tVar 0) (tC (.int j))
abbrev wr (j : Int) : TG := gSub (tVar 0) (tC (.int j)) rSetL
abbrev toI (t : TE) : TE := tCB rInt (tCons t tNil)
def t_take (K : PySem.W.Frag) : TS :=
  tSeq (tIfS (tAnd (tTest (tOp rEq (rd K 2) (tC (.int 0)))) (tTest (tOp rLt (rd K 1) (tCB (rLen K) (tCons (rd K 0) tNil)))))
    (tSeq (tAsg (tCB rAbs (tCons (toI (tOp (rIxL K) (rd K 0) (rd K 1))) tNil)) (wr 2))
    (tSeq (tAsg (tOp rAdd (rd K 1) (tC (.int 1))) (wr 1))
    (tIfS (tTest (tOp rLt (rd K 2) (tOp rPow (tC (.int 10)) (tC (.int 18))))) (tSeq (tAsg (toI (rd K 2)) (gName 2)) (tSeq (tAsg (tC (.int 0)) (wr 2)) (tRet (tOp rMod (tVar 2) (tVar 1))))) tNext)))
    tNext)
  (tSeq (tIfS (tTest (tOp rGt (rd K 2) (tC (.int 0)))) (tSeq (tAsg (tOp rMod (toI (rd K 2)) (tVar 1)) (gName 3)) (tSeq (tAsg (tOp rDivN (toI (rd K 2)) (tVar 1)) (wr 2)) (tRet (tVar 3)))) tNext)
  (tSeq (tAsg (tOp rMod (toI (tOp rAdd (tOp rMul (rd K 3) (tC (.int 48271))) (tC (.int 11)))) (tC (.int 2147483647))) (wr 3))
  (tRet (tOp rMod (toI (tOp rDiv (rd K 3) (tC (.int 3)))) (tVar 1)))))
def t_begin (K : PySem.W.Frag) : TS :=
  tSeq (tAsg (tC (.int 1)) (gName 1))
  (tSeq (tFor (iList K (tVar 0)) (gName 2) (tAsg (tOp rMod (tOp rAdd (tOp rAdd (tOp rMul (tVar 1) (tC (.int 69621))) (tOp rMod (toI (tVar 2)) (tC (.int 2147483629)))) (tC (.int 7))) (tC (.int 2147483647))) (gName 1)))
  (tRet (tLst (tCons (tCB (rListOf K) (tCons (tVar 0) tNil)) (tCons (tC (.int 0)) (tCons (tC (.int 0)) (tCons (tVar 1) tNil)))))))
/-- a number below m, whichever -/
def S_take : DSpec := fun rs P _ => ∃ m : Int, rs = [.drw, .im (.int m)] ∧ 1 ≤ m ∧ m < 1073741824 ∧ ∀ r, 0 ≤ r → r < m → P (.im (.int r))
section
variable {K : PySem.W.Frag} {σ : L2.St} {H : Hp} {a : Addr} {Q : VK} {xs : List V}
theorem rd_run {j : Int} {v : V} (h0 : σ[0]? = some (some (.ref a))) (hH : H a = some (.lst xs)) (hj : atI xs j = some v) (q : Q v H) : rd K j σ H Q := ⟨_, h0, _, _, _, _, rfl, rfl, SqL.of hH, hj, q⟩
theorem wr_run {j : Int} {v : V} {i : Nat} {Qs : L2.St → Hp → Prop} (h0 : σ[0]? = some (some (.ref a))) (hH : H a = some (.lst xs)) (hj : ixN xs.length j = some i) (q : Qs σ (upd H a (.lst (xs.set i v)))) : wr j v σ H Qs := ⟨_, h0, _, _, _, _, rfl, rfl, hH, hj, q⟩
end
theorem big_abs {n : Int} (h : Big n) : Big (if n < 0 then -n else n) := by
  unfold Big at *
  split
  · rw [Int.natAbs_neg]; exact h
  · exact h
theorem big_div {r : Int} {m : Nat} (h0 : 0 ≤ r) (h : Big r) : Big ((r.toNat / m : Nat) : Int) := by
  unfold Big at *
  rw [Int.natAbs_natCast]
  refine Nat.lt_of_le_of_lt (Nat.div_le_self _ _) ?_
  rw [show r.toNat = r.natAbs by omega]
  exact h
theorem Ext.turn {w : Option Dw} {F H : Hp} {d : Dw} {i : Nat} {r c : Int} (x : Ext w F H F H) (e : w = some d) (h1 : 0 ≤ r) (h2 : Big r) (h3 : 0 ≤ c) (h4 : c < 2147483647) : Ext w F H F (upd H d.a (.lst [.ref d.s, .int i, .int r, .int c])) where
  fs := Sub.refl
  le := fun b o eb => by
    have n : b ≠ d.a := fun z => by subst z; rw [(x.dr d e).free] at eb; cases eb
    rw [upd_ne n]; exact x.le b o eb
  hs := fun b o eb nd => by rw [upd_ne (fun z => nd d e z.symm)]; exact eb
  new := fun b eb => .inl eb
  dr := fun d' e' => by
    obtain rfl : d = d' := by rw [e] at e'; exact Option.some.inj e'
    have o := x.dr d e
    exact ⟨o.free, ⟨i, r, c, upd_same, h1, h2, h3, h4⟩, o.copy, o.few, o.big⟩
theorem upd_upd {H : Hp} {a : Addr} {u v : HO} : upd (upd H a u) a v = upd H a v := by
  funext b
  by_cases h : b = a
  · subst h; rw [upd_same, upd_same]
  · rw [upd_ne h, upd_ne h, upd_ne h]

abbrev nTake : List Str := ["d", "many", "small", "digit"]
abbrev ph3 (K : PySem.W.Frag) : TS := tSeq (tAsg (tOp rMod (toI (tOp rAdd (tOp rMul (rd K 3) (tC (.int 48271))) (tC (.int 11)))) (tC (.int 2147483647))) (wr 3)) (tRet (tOp rMod (toI (tOp rDiv (rd K 3) (tC (.int 3)))) (tVar 1)))
abbrev ph2 (K : PySem.W.Frag) : TS := tSeq (tIfS (tTest (tOp rGt (rd K 2) (tC (.int 0)))) (tSeq (tAsg (tOp rMod (toI (rd K 2)) (tVar 1)) (gName 3)) (tSeq (tAsg (tOp rDivN (toI (rd K 2)) (tVar 1)) (wr 2)) (tRet (tVar 3)))) tNext) (ph3 K)
theorem sem_take {K : PySem.W.Frag} {vs : List V} {H : Hp} {Q : VK} {E : XK} (h : dSp K 2 S_take vs H Q E) : t_take K { nx := fun _ H' => Q .non H', rt := Q } (L2.start nTake vs) H := by
  obtain ⟨w, F, rs, P, PX, x, q, g, hl, ⟨m, rfl, m1, m2, p⟩, kq, _⟩ := h
  cases q with
  | cons q1 q2 =>
  cases q2 with
  | cons q2 q3 =>
  cases q3
  cases q2
  obtain ⟨d, ew, rfl⟩ := q1
  have o := x.dr d ew
  obtain ⟨i, r, c, hd, r0, rb, c0, c1⟩ := o.at_
  have hs : H d.s = some (.lst (d.ns.map V.int)) := x.le _ _ o.copy
  have ne : d.s ≠ d.a := fun z => by have := o.copy; rw [z, o.free] at this; cases this
  have fin : ∀ (i : Nat) (r c : Int) (z : Int), 0 ≤ r → Big r → 0 ≤ c → c < 2147483647 → 0 ≤ z → z < m → Q (.int z) (upd H d.a (.lst [.ref d.s, .int i, .int r, .int c])) := fun i r c z h1 h2 h3 h4 h5 h6 => kq _ _ _ (.im (.int z)) (x.turn ew h1 h2 h3 h4) (.int z) rfl (p z h5 h6)
  have third : ∀ (H1 : Hp) (i : Nat) (r c : Int) (a b : Option V), H1 d.a = some (.lst [.ref d.s, .int i, .int r, .int c]) → (∀ u, upd H1 d.a u = upd H d.a u) → 0 ≤ r → Big r → 0 ≤ c → c < 2147483647 → ph3 K { nx := fun _ H' => Q .non H', rt := Q } [some (.ref d.a), some (.int m), a, b] H1 := by
    intro H1 i r c a b hd hu h1 h2 h3 h4
    have e1 : 0 ≤ (c * 48271 + 11) % 2147483647 := Int.emod_nonneg _ (by decide)
    have e2 : (c * 48271 + 11) % 2147483647 < 2147483647 := Int.emod_lt_of_pos _ (by decide)
    refine rd_run rfl hd rfl ⟨_, _, rfl, rfl, .inl ⟨by omega, by omega⟩, _, _, rfl, rfl, .inl ⟨_, rfl, _, _, rfl, rfl, (show (0 : Int) < 2147483647 by decide), wr_run rfl hd rfl ?_⟩⟩
    refine rd_run rfl upd_same rfl ⟨_, _, rfl, rfl, ⟨by decide, by decide⟩, .inl ⟨_, rfl, _, rfl, _, _, rfl, rfl, by omega, ?_⟩⟩
    rw [hu]
    exact fin i r _ _ h1 h2 e1 e2 (Int.emod_nonneg _ (by omega)) (Int.emod_lt_of_pos _ (by omega))
  have second : ∀ (H1 : Hp) (i : Nat) (r c : Int) (a b : Option V), H1 d.a = some (.lst [.ref d.s, .int i, .int r, .int c]) → (∀ u, upd H1 d.a u = upd H d.a u) → 0 ≤ r → Big r → 0 ≤ c → c < 2147483647 → ph2 K { nx := fun _ H' => Q .non H', rt := Q } [some (.ref d.a), some (.int m), a, b] H1 := by
    intro H1 i r c a b hd hu h1 h2 h3 h4
    refine rd_run rfl hd rfl ⟨_, _, rfl, rfl, _, rfl, ?_⟩
    by_cases hr : 0 < r
    · show (if _ = true then _ else _); rw [if_pos (decide_eq_true hr)]
      refine rd_run rfl hd rfl (.inl ⟨_, rfl, _, rfl, _, _, rfl, rfl, by omega, ?_⟩)
      refine rd_run rfl hd rfl (.inl ⟨_, rfl, _, rfl, r.toNat, m.toNat, by rw [Int.toNat_of_nonneg h1], by rw [Int.toNat_of_nonneg (by omega)], ⟨by omega, by omega⟩, wr_run rfl hd rfl ⟨_, rfl, ?_⟩⟩)
      rw [hu]
      exact fin i _ c _ (Int.natCast_nonneg _) (big_div h1 h2) h3 h4 (Int.emod_nonneg _ (by omega)) (Int.emod_lt_of_pos _ (by omega))
    · show (if _ = true then _ else _); rw [if_neg (by simpa using hr)]
      exact third H1 i r c a b hd hu h1 h2 h3 h4
  show tIfS _ _ _ _ [some (.ref d.a), some (.int m), none, none] H
  refine rd_run rfl hd rfl ⟨rfl, _, rfl, ?_⟩
  by_cases hr : r = 0
  · subst hr
    show (if _ = true then _ else _); rw [if_pos (by decide)]
    refine rd_run rfl hd rfl (rd_run rfl hd rfl ⟨_, _, rfl, .inl ⟨_, SqL.of hs, rfl⟩, _, _, rfl, rfl, _, rfl, ?_⟩)
    show (if decide (_ < ((List.map V.int _).length : Int)) = true then _ else _)
    rw [List.length_map]
    by_cases hi : i < d.ns.length
    · rw [if_pos (decide_eq_true (by omega))]
      have hz : atI (d.ns.map V.int) (i : Int) = some (.int d.ns[i]) := by
        unfold atI ixN
        rw [List.length_map, if_pos (Int.natCast_nonneg _), if_pos (by omega)]
        simp [hi]
      have bz : Big d.ns[i] := o.big _ (List.getElem_mem hi)
      generalize d.ns[i] = z at hz bz
      have ba := big_abs bz
      have na : 0 ≤ (if z < 0 then -z else z) := by split <;> omega
      refine rd_run rfl hd rfl (rd_run rfl hd rfl ⟨_, _, _, _, rfl, rfl, SqL.of hs, hz, .inl ⟨_, rfl, _, rfl, ?_⟩⟩)
      generalize (if z < 0 then -z else z) = y at ba na
      refine wr_run rfl hd rfl ?_
      refine rd_run rfl upd_same rfl ⟨_, _, rfl, rfl, wr_run rfl upd_same rfl ?_⟩
      rw [upd_upd]
      refine rd_run rfl upd_same rfl ⟨_, _, rfl, rfl, ⟨by decide, by decide, by decide⟩, _, _, rfl, rfl, _, rfl, ?_⟩
      show (if _ = true then _ else _)
      by_cases hy : y < 10 ^ (18 : Int).toNat
      · rw [if_pos (decide_eq_true hy)]
        refine rd_run rfl upd_same rfl (.inl ⟨_, rfl, ?_⟩)
        refine wr_run rfl upd_same rfl ⟨_, rfl, _, rfl, _, _, rfl, rfl, by omega, ?_⟩
        rw [upd_upd]
        exact fin (i + 1) 0 c _ (by decide) (Nat.two_pow_pos _) c0 c1 (Int.emod_nonneg _ (by omega)) (Int.emod_lt_of_pos _ (by omega))
      · rw [if_neg (by simpa using hy)]
        exact second _ (i + 1) y c none none upd_same (fun _ => upd_upd) na ba c0 c1
    · rw [if_neg (by simp; omega)]
      exact second H i 0 c none none hd (fun _ => rfl) r0 rb c0 c1
  · show (if _ = true then _ else _); rw [if_neg (by simp [hr])]
    exact second H i r c none none hd (fun _ => rfl) r0 rb c0 c1

/-- the drawer is made -/
def spBegin (K : PySem.W.Frag) : Sp := fun vs H Q _ => ∃ (a : Addr) (ns : List Int), vs = [.ref a] ∧ SqL K H a (ns.map V.int) ∧ ∀ (H' : Hp) (p q : Addr) (c : Int), Sub H H' → H p = none → H q = none → p ≠ q →
  H' q = some (.lst (ns.map V.int)) → H' p = some (.lst [.ref q, .int 0, .int 0, .int c]) → 0 ≤ c → c < 2147483647 → Q (.ref p) H'
abbrev nBegin : List Str := ["script", "seed", "cell"]
theorem sem_begin {K : PySem.W.Frag} {vs : List V} {H : Hp} {Q : VK} {E : XK} (h : spBegin K vs H Q E) : t_begin K { nx := fun _ H' => Q .non H', rt := Q } (L2.start nBegin vs) H := by
  obtain ⟨a, ns, rfl, hs, k⟩ := h
  have e0 : (L2.start nBegin [V.ref a]).set 1 (some (.int 1)) = [some (.ref a), some (.int 1), none] := rfl
  show tSeq (tFor (iList K (tVar 0)) (gName 2) (tAsg (tOp rMod (tOp rAdd (tOp rAdd (tOp rMul (tVar 1) (tC (.int 69621))) (tOp rMod (toI (tVar 2)) (tC (.int 2147483629)))) (tC (.int 7))) (tC (.int 2147483647))) (gName 1))) _ _ ((L2.start nBegin [V.ref a]).set 1 (some (.int 1))) H
  rw [e0]
  have hl : (ns.map V.int).length = ns.length := List.length_map ..
  refine ⟨_, rfl, a, rfl, ⟨_, hs⟩, fun i m σ H' => m = ns.length - i ∧ i ≤ ns.length ∧ H' = H ∧ ∃ c b, σ = [some (.ref a), some (.int c), b] ∧ 0 ≤ c ∧ c < 2147483647, ⟨_, rfl, Nat.zero_le _, rfl, 1, none, rfl, by decide, by decide⟩, ?_⟩
  rintro i m σ H' ⟨rfl, hi, rfl, c, b, rfl, c0, c1⟩
  by_cases hlt : i < ns.length
  · refine .inr ⟨⟨_, .int ns[i], hs, by simp [hlt]⟩, fun σ H'' => i + 1 ≤ ns.length ∧ H'' = H' ∧ ∃ c b, σ = [some (.ref a), some (.int c), b] ∧ 0 ≤ c ∧ c < 2147483647, fun σ' H'' n => ⟨_, ?_, rfl, n⟩, fun x H'' y => ?_⟩
    · omega
    obtain ⟨rfl, y⟩ := y
    have ex : x = .int ns[i] := by
      have := y _ hs
      simp [hlt] at this
      exact this.symm
    subst ex
    refine ⟨_, rfl, _, _, rfl, rfl, .inl ⟨by omega, by omega⟩, _, rfl, .inl ⟨_, rfl, _, _, rfl, rfl, (show (0 : Int) < 2147483629 by decide), _, _, rfl, rfl, _, _, rfl, rfl, _, _, rfl, rfl, (show (0 : Int) < 2147483647 by decide), hlt, rfl, _, _, rfl, Int.emod_nonneg _ (by decide), Int.emod_lt_of_pos _ (by decide)⟩⟩
  · have e : i = ns.length := by omega
    subst e
    refine .inl ⟨⟨_, hs, by rw [hl]; exact Nat.le_refl _⟩, ?_⟩
    refine ⟨_, rfl, a, _, rfl, .inl hs, fun q hq => ⟨_, rfl, (show (4 : Nat) ≤ sizeLine by decide), fun p hp => ?_⟩⟩
    have ne : p ≠ q := fun z => by subst z; rw [upd_same] at hp; cases hp
    rw [upd_ne ne] at hp
    exact k _ p q c ((upd_grow hq).trans (upd_grow (by rw [upd_ne ne]; exact hp))) hp hq ne (by rw [upd_ne (Ne.symm ne), upd_same]) upd_same c0 c1
end DW
set_option Elab.async false
set_option linter.all false
set_option maxRecDepth 100000
set_option maxHeartbeats 4000000
namespace DW
open PySem PySem.Spec PyProof.Rows L2 PpSet
/-! ### set(bs), all the same truth value -/
section
variable {P0 : Program} {w : World} {A : Around} {R : Result → Shared → Prop} {I : Addr} {fp wr : List Addr} {G : Array GenState → Array GenState → Prop} {n : Nat} {Pv : Nat → Value → Prop} {St : Nat → Shared → Prop}
/-- the members behind i turns -/
abbrev memB (b : Bool) (i : Nat) : Bool → Bool := fun k => decide (0 < i) && decide (k = b)
theorem loopB (Wk : WalksS P0 w A.in1 I fp wr G n Pv St) (S : Addr) (off : S ∉ fp) (b : Bool) (hval : ∀ i v, Pv i v → v = .bool b) : ∀ (k i : Nat) (s : Shared), n - i = k → i ≤ n → St i s → s.heap.SetOf (boolK P0 w) S (memB b i) (min i 1) →
      (∀ t, Moved (S :: wr) G s t → t.heap.SetOf (boolK P0 w) S (memB b n) (min n 1) → R (.ok (.ret .none)) t) → codeAny (model P0 w) A (.builtin "set.update.loop" ⟨[.ref S, .ref I], []⟩) R s := by
  have offw : S ∉ wr := fun h => off (Wk.sub _ h)
  have more : ∀ c ∈ wr, c ∈ S :: wr := fun c hc => List.mem_cons_of_mem _ hc
  intro k
  induction k with
  | zero =>
    intro i s hk hi hst hS hR
    obtain rfl : i = n := by omega
    refine codeAny_builtin PyProof.Rows.F.entry_set_update_loop ?_
    rw [Around.under_plainId PyProof.Rows.F.plain_set_update_loop _]
    refine (show wpAny _ A.in1 (pyNext (.ref I) >>= _) _ _ s from wpAny_bind (Wk.done s _ _ hst fun t hm => ?_))
    refine (show wpAny _ A.in1 (ret Value.none) _ _ t from wpAny_pure (hR t (hm.mono more) ?_))
    obtain ⟨o, es, ep, tb, ho, more2⟩ := hS
    exact ⟨o, es, ep, tb, hm.heap S _ offw ho, more2⟩
  | succ k ih =>
    intro i s hk hi hst hS hR
    have lt : i < n := by omega
    refine codeAny_builtin PyProof.Rows.F.entry_set_update_loop ?_
    rw [Around.under_plainId PyProof.Rows.F.plain_set_update_loop _]
    refine (show wpAny _ A.in1 (pyNext (.ref I) >>= _) _ _ s from wpAny_bind (Wk.item i s _ _ lt hst fun v t hP ht hm => ?_))
    obtain rfl := hval i v hP
    have hS1 : t.heap.SetOf (boolK P0 w) S (memB b i) (min i 1) := by
      obtain ⟨o, es, ep, tb, ho, more2⟩ := hS
      exact ⟨o, es, ep, tb, hm.heap S _ offw ho, more2⟩
    refine (show wpAny _ A.in1 (holding [Value.bool b] (setAdd S (.bool b)) >>= _) _ _ t from wpAny_bind (wpAny_holding ?_))
    unfold setAdd
    refine wpAny_holding (wpAny_bind ((boolK P0 w).pyHash (k := b) (boolK_is _ _ _) ?_))
    refine wpAny_setAddHashed_of (knd := boolK P0 w) (s := { t with toks := t.toks + 1 }) (boolK_is _ _ _) rfl hS1 (by unfold scanBound; omega) fun h' sb hS2 => ?_
    have hS3 : h'.SetOf (boolK P0 w) S (memB b (i + 1)) (min (i + 1) 1) := by
      refine SetOf_congr hS2 (fun k' => ?_) ?_
      · show (decide (0 < i) && decide (k' = b) || decide (k' = b)) = (decide (0 < i + 1) && decide (k' = b))
        by_cases e : k' = b <;> simp [e]
      · by_cases e : 0 < i
        · simp [memB, e]; omega
        · have : i = 0 := by omega
          subst this; simp [memB]
    refine wpAny_pure ⟨plainId_quiet PyProof.Rows.F.plain_set_update_loop _, ih (i + 1) _ (by omega) lt (Wk.frame _ t _ _ ht (Nat.le_succ _) fun c hc o e => ?_) hS3 fun u hm2 hS4 => ?_⟩
    · exact (sb.2 c (fun z : c = S => off (z ▸ hc))).trans e
    · refine hR u (Moved.trans Wk.gtrans ((hm.mono more).then_heap (Nat.le_succ _) fun c o hc e => ?_) hm2) hS4
      exact (sb.2 c (fun z : c = S => hc (z ▸ List.mem_cons_self))).trans e
end
section
variable {P0 : Program} {w : World} {A : Around} {E : Value → Shared → Prop} {s : Shared}
set_option maxHeartbeats 3200000 in
theorem set_ofB {l : Addr} {us : Array Value} {b : Bool} {Q : Value → Shared → Prop} (hh : A.handled = none) (hl : s.heap.IsList l us) (hall : ∀ (i : Nat) (v : Value), us[i]? = some v → v = .bool b)
    (hQ : ∀ (h' : Heap) (tk : Nat), h'.SetOf (boolK P0 w) s.heap.objs.size (memB b us.size) (min us.size 1) → (∀ c o, c < s.heap.objs.size → s.heap.get? c = some o → h'.get? c = some o) → Q (.ref s.heap.objs.size) { s with heap := h', toks := tk }) : wpAny (model P0 w) A (call (.type "set") [.ref l]) Q E s := by
  have f1 := PySem.F.called_set.notType; have f2 := PySem.F.called_set.canCreate; have f3 := PySem.F.typeCall_set_1 (.ref l); have f4 := PySem.F.called_set.made; have f5 := PySem.F.called_set.sub
  obtain ⟨c, tl, hmro⟩ := PySem.F.called_set.mro
  refine (wpAny_call (codeAny_of_tree (show wpAny _ _ (callAny (.type "set") _) _ _ _ from wpAny_pure ⟨Code.quiet_builtin _ (by decide +kernel), codeAny_builtin PySem.F.entry_type_call ?_⟩)))
  rw [Around.under_plain (weight_type_call_type "set" [.ref l] []) rfl]
  repeat (any_goals first | assumption | wp_step)
  refine codeAny_mono (code_set_new_1 (.ref l) (E := E) (Q₁ := fun z t => ∃ led : Bool, z = .ref s.heap.objs.size ∧ t = { s with heap := s.heap.push { cls := .type "set", dict := none, data := .set #[] 0 (.fresh 0 0 led) } }) fun led => ⟨led, rfl, rfl⟩) fun r t hr => ?_
  cases r with
  | error e => exact hr
  | ok fl =>
    cases fl with
    | ret z =>
      obtain ⟨led, rfl, rfl⟩ := hr
      have gS : (s.heap.push { cls := .type "set", dict := none, data := .set #[] 0 (.fresh 0 0 led) }).get? s.heap.objs.size = some { cls := .type "set", dict := none, data := .set #[] 0 (.fresh 0 0 led) } := (Heap.get?_push_size _ rfl)
      have tS : Shared.TypeIs { s with heap := s.heap.push { cls := .type "set", dict := none, data := .set #[] 0 (.fresh 0 0 led) } } (.ref s.heap.objs.size) "set" := (⟨_, gS, rfl⟩)
      have b1 := PySem.F.called_set.init.lookup; have b2 := PySem.F.called_set.init.bind (.ref s.heap.objs.size)
      repeat (any_goals first | assumption | wp_step)
      refine codeAny_mono (codeAny_call_builtin (R := wants (fun r t => r = .none ∧ ∃ h' tk, t = { s with heap := h', toks := tk } ∧ h'.SetOf (boolK P0 w) s.heap.objs.size (memB b us.size) (min us.size 1) ∧ (∀ c o, c < s.heap.objs.size → s.heap.get? c = some o → h'.get? c = some o)) E) PySem.F.called_set.init.plain PySem.F.entry_set_init (check_set_init_1 tS ?_)) fun r2 t2 hr2 => ?_
      · obtain ⟨⟨k1, k2, k3, k4⟩, hol, hcl, nl, hdl⟩ := hl
        simp only at hcl hdl
        subst hcl; subst hdl
        have hol2 : (s.heap.push { cls := .type "set", dict := none, data := .set #[] 0 (.fresh 0 0 led) }).get? l = some { cls := .type "list", dict := k2, data := .seq us nl, slots := k4 } := Heap.get?_push_of_some _ hol
        have n1 := PySem.F.sub_list_set; have n2 := PySem.F.sub_list_frozenset
        have n3 : (Value.type "list" == Value.type "dict") = false := by decide
        have hl1 : (s.heap.push { cls := .type "set", dict := none, data := .set #[] 0 (.fresh 0 0 led) }).IsList l us := ⟨_, hol2, rfl, nl, rfl⟩
        unfold Builtin.«set.__init__» noKeywords Builtin.Frozenset.updateFrom
        generalize ePI : pyIter = PI
        wp_walk
        subst ePI
        refine wpAny_pyIter_list hl1 ?_; refine wpAny_bind (wpAny_runValue ?_)
        have lS : l < s.heap.objs.size := Heap.lt_size hol
        have hnone : A.in1.in1.in1.handled = none := by simp [hh]
        have ne1 : l ≠ (s.heap.push { cls := .type "set", dict := none, data := .set #[] 0 (.fresh 0 0 led) }).objs.size := by rw [Heap.size_push]; exact Nat.ne_of_lt (Nat.lt_succ_of_lt lS)
        have off : s.heap.objs.size ∉ [(s.heap.push { cls := .type "set", dict := none, data := .set #[] 0 (.fresh 0 0 led) }).objs.size, l] := by
          rw [Heap.size_push]
          intro hm
          rcases List.mem_cons.mp hm with z | z
          · exact absurd z (Nat.ne_of_lt (Nat.lt_succ_self _))
          · exact absurd (List.mem_singleton.mp z) (Nat.ne_of_gt lS)
        refine loopB ((Walks.list hnone _ l ne1 us).toS) s.heap.objs.size off b (fun i v hv => hall i v hv) (us.size - 0) 0 _ (by omega) (Nat.zero_le _) ⟨⟨_, Heap.get?_push_size _ rfl, rfl, rfl⟩, (hl1.push _)⟩ ?start ?fin
        case start =>
          have gg := Heap.get?_push_of_some { cls := .type "list_iterator", data := .fields #[.ref l, .int 0 0] } gS
          refine PyProof.Rows.SetOf_congr ((PyProof.Rows.setObjOf_fresh (knd := boolK P0 w) led).setOf gg (by unfold scanBound; omega)) (fun k => ?_) rfl
          first | rfl | simp [memB]
        case fin =>
          rintro ⟨h', g', d', tk', os'⟩ hm hS'
          obtain rfl : g' = s.gens := hm.gens
          obtain rfl : d' = s.drawn := hm.drawn
          obtain rfl : os' = s.os := hm.os
          refine (show wpAny _ _ _ _ _ _ from wpAny_pure (show wpAny _ _ (ret Value.none) _ _ _ from wpAny_pure ⟨rfl, h', tk', rfl, hS', fun c o hc e => ?_⟩))
          refine hm.heap c o (fun hm2 => ?_) (Heap.get?_push_of_some _ (Heap.get?_push_of_some _ e))
          rcases List.mem_cons.mp hm2 with z | z
          · exact absurd z (Nat.ne_of_lt hc)
          · have := List.mem_singleton.mp z
            rw [Heap.size_push] at this
            exact absurd this (Nat.ne_of_lt (Nat.lt_succ_of_lt hc))
      · cases r2 with
        | error e => exact hr2
        | ok fl2 =>
          cases fl2 with
          | ret r =>
            obtain ⟨rfl, h', tk, rfl, hS', hk'⟩ := hr2
            repeat (any_goals first | assumption | wp_step)
            exact hQ _ _ hS' hk'
          | _ => exact hr2.elim
    | _ => exact hr.elim
end
section
variable {X : Cx} {a : Expr} {ta : TE} {p p2 q pos : Pos}
theorem vals_bl {b : Bool} : ∀ {n : Nat} {its : List Value}, Vals (List.replicate n (V.bl b)) its → ∀ (i : Nat) (v : Value), its[i]? = some v → v = .bool b
  | 0, _, h, i, v, e => by cases h; simp at e
  | n + 1, _, h, i, v, e => by
    rw [List.replicate_succ] at h
    cases h with
    | cons r t =>
      cases i with
      | zero => simp at e; subst e; exact r
      | succ i => exact vals_bl t i v (by simpa using e)
theorem pe_lenSetB (hc : X.calm = true) (hg : Gl X "len") (hm : X.mg "len" = none) (hg2 : Gl X "set") (hm2 : X.mg "set" = none) (ha : PE X a ta) (na : starEach [a] X.env = (false, eval a X.env) :: starEach [] X.env := by rfl) :
    PE X (.Call (.Name "len" p) [.Call (.Name "set" p2) [a] [] q] [] pos) (fun σ H Q => ta σ H fun x H1 => ∃ (l : Addr) (b : Bool) (n : Nat), x = .ref l ∧ SqL X.K H1 l (List.replicate n (V.bl b)) ∧ Q (.int (min n 1 : Nat)) H1) := ⟨fun pins s σ H Q I h => by
  refine Call_ (ld_blt I hg hm boot_len (callWith_builtin1 (args_cons ?_ rfl) rfl rfl))
  refine Call_ (ld_blt I hg2 hm2 boot_set (callWith_type1 (args_cons (thn (ha.run pins s σ H _ I h) fun v s1 ⟨x, H1, I1, r1, l, b, n, ex, hq, q1⟩ => args_nil ?_) na) na rfl))
  subst ex
  cases r1
  obtain ⟨its, r, pl, hz⟩ := I1.list hq
  have hn : its.toArray.size = n := by rw [List.size_toArray, ← r.length, List.length_replicate]
  refine set_ofB (I1.ok.hd hc) pl.isList (b := b) (fun i v hv => vals_bl r i v (by simpa using hv)) fun h' tk hS hk => args_nil ?_
  rw [hn] at hS
  obtain ⟨o, es, ep, t, ho, hex, hd, _, _, hb, hf, hsz⟩ := hS
  have I2 : Inv X pins σ H1 { s1 with heap := h', toks := tk } := I1.kept fun c o e => hk c o (Heap.lt_size e) e
  exact call_len_set ho hex hd hf (by rw [hsz]; omega) ⟨.int (min n 1 : Nat), H1, I2.tok _, ⟨_, by rw [hsz]⟩, q1⟩⟩
end
end DW
set_option Elab.async false
set_option linter.all false
set_option maxRecDepth 100000
set_option maxHeartbeats 4000000
namespace DW
open PySem PySem.Spec L2
theorem room_units {k : Nat} {A : Around} (r : Room k A) : A.units + 1 < cLine ∧ A.units + 64 < cLine ∧ A.units + 65 < cLine := by
  have := r.un
  exact ⟨by omega, by omega, by omega⟩
/-- an own exception class: what the head tells -/
structure XF (K : PySem.W.Frag) (mg : Str → Option Value) (x : Str) : Prop where
  glo : mg x = some (.ref (He.ga K x))
  exc : PySem.W.excIn K (He.ga K x) He.veBase "ValueError.__new__" = true
  keep : PySem.W.keepIn K (.ref (He.ga K x)) = true
  sub : PySem.W.subIn K (.ref (He.ga K x)) (.type "BaseException") = some true
  typ : PySem.W.typeIn K (.ref (He.ga K x)) = some (.type "type")
section
variable {K : PySem.W.Frag} {w : Option Dw} {G : Gd} {F F1 F2 H H1 H2 : Hp} {σ : L2.St} {δ : DEnv}
variable {X : Cx} {W : WX} {st : Bool} {tg iter e a b c elt o kx vx : Expr} {es rest : List Expr} {we wa wb wc wk wv wo : WE'} {wt wu : WT} {waa : WA} {pos p q np pos' apos cpos py spos : Pos} {s b₀ : Stmt} {body suite : List Stmt} {ws wss : WS} {x y : Str}
theorem de_glI {i : Int} (hg : Gl X x) (h : ∃ t, X.mg x = some (.int i t)) (hd : (x == ("__debug__" : Str)) = false := by decide) : DE X G W (.Name x pos) (wC (.int i)) := by
  obtain ⟨t, h⟩ := h
  exact de_con (pe_glob (v := .int i) hg h ⟨t, rfl⟩ hd) fun _ => .int i
theorem de_neg {j : Nat} {z : Int} {p3 : Pos} : DE X G W (.UnaryOp .USub (.Constant (.int z) j p3) pos) (wC (.int (-z))) := PE.imp (pe_un un_neg pe_int) fun σ H Q ⟨F, δ, P, PX, S, p, k, xk⟩ => ⟨z, rfl, k _ F H (.im (.int (-z))) S.ext.stay (.int _) p⟩
theorem dt_inL (hu : X.A.units + 65 < cLine) (ha : DE X G W a wa) (hb : DE X G W b wb) (hm : behindInMarks .In b = false := by rfl) : DT X G W (.Compare a [.In] [b] pos) (wB (wOp (kInL false) wa wb)) := dt_cmp (op_inD hu) opd_inL ha hb hm
theorem dt_notInL (hu : X.A.units + 65 < cLine) (ha : DE X G W a wa) (hb : DE X G W b wb) (hm : behindInMarks .NotIn b = false := by rfl) : DT X G W (.Compare a [.NotIn] [b] pos) (wB (wOp (kInL true) wa wb)) := dt_cmp (op_notInD hu) opd_notInL ha hb hm
theorem dt_inT (ha : DE X G W a wa) (hb : DE X G W b wb) (hm : behindInMarks .In b = false := by rfl) : DT X G W (.Compare a [.In] [b] pos) (wB (wOp (kInT false) wa wb)) := dt_cmp op_in_seq opd_inT ha hb hm
theorem dt_notInT (ha : DE X G W a wa) (hb : DE X G W b wb) (hm : behindInMarks .NotIn b = false := by rfl) : DT X G W (.Compare a [.NotIn] [b] pos) (wB (wOp (kInT true) wa wb)) := dt_cmp op_notIn_seq opd_notInT ha hb hm
theorem dt_inS (ha : DE X G W a wa) (hb : DE X G W b wb) (hm : behindInMarks .In b = false := by rfl) : DT X G W (.Compare a [.In] [b] pos) (wB (wOp (kInS false) wa wb)) := dt_cmp op_in_sign opd_inS ha hb hm
theorem dt_isN (ha : DE X G W a wa) (hb : DE X G W b wb) : DT X G W (.Compare a [.Is] [b] pos) (wB (wOp kIsN wa wb)) := dt_cmp op_isN opd_isN ha hb (nb _ (by decide) (by decide))
theorem dt_notN (ha : DE X G W a wa) (hb : DE X G W b wb) : DT X G W (.Compare a [.IsNot] [b] pos) (wB (wOp kNotN wa wb)) := dt_cmp op_notN opd_notN ha hb (nb _ (by decide) (by decide))
/-- x = [.. for ..] on one line -/
theorem ds_setLc {i : Nat} {scope : Scope} {own : List (Str × Nat)} {wi : WI} {wg : WG} {ts : List Nat} (hc : X.calm = true) (hN : X.N.Nodup) (hy : X.N[i]? = some y) (hyl : X.env.scope.names.lookup y = some .local)
    (hsw : swapsWith (.ListComp elt [⟨tg, iter, [], 0⟩] scope pos) (some (.Name y py)) spos.line X.env = pure true) (hi : DI X G W st tg iter wi) (ok : BlkOk X.N X.env.scope scope own)
    (hg : ∀ (s : Shared) (H : Hp) (C : Addr) (cl : List (Str × Addr)) (fp : List Addr), DG (X.blk s H scope (compEnvC scope cl C X.env) fp) G ts tg wg)
    (he : ∀ (s : Shared) (H : Hp) (C : Addr) (cl : List (Str × Addr)) (fp : List Addr), DE (X.blk s H scope (compEnvC scope cl C X.env) fp) G wTrue elt we)
    (hts : ∀ t ∈ ts, t ∈ own.map (·.2) := by decide) (hs : ∀ x, foldedSetIterable iter X.env x = pure x := by intro _; rfl) : DS X G W (.Assign [.Name y py] (.ListComp elt [⟨tg, iter, [], 0⟩] scope pos) spos) (sSet i (wLc wi wg wtYes we (own.map (·.2)))) :=
  PS.imp (ps_setLc hc hN hy hyl hsw hi ok hg (fun _ _ _ _ _ => pts_nil) he hs) fun D σ H h => lc_of hts (fun σ H Q ⟨F, δ, P, PX, S, q, k, xk⟩ => k true F H S.ext.stay q) (fun _ _ _ h => h) (set_of h)
theorem ds_setLcIf {i : Nat} {scope : Scope} {own : List (Str × Nat)} {wi : WI} {wg : WG} {ts : List Nat} (hc : X.calm = true) (hN : X.N.Nodup) (hy : X.N[i]? = some y) (hyl : X.env.scope.names.lookup y = some .local)
    (hsw : swapsWith (.ListComp elt [⟨tg, iter, [c], 0⟩] scope pos) (some (.Name y py)) spos.line X.env = pure true) (hi : DI X G W st tg iter wi) (ok : BlkOk X.N X.env.scope scope own)
    (hg : ∀ (s : Shared) (H : Hp) (C : Addr) (cl : List (Str × Addr)) (fp : List Addr), DG (X.blk s H scope (compEnvC scope cl C X.env) fp) G ts tg wg)
    (ht : ∀ (s : Shared) (H : Hp) (C : Addr) (cl : List (Str × Addr)) (fp : List Addr), DT (X.blk s H scope (compEnvC scope cl C X.env) fp) G wTrue c wt)
    (he : ∀ (s : Shared) (H : Hp) (C : Addr) (cl : List (Str × Addr)) (fp : List Addr), DE (X.blk s H scope (compEnvC scope cl C X.env) fp) G wTrue elt we)
    (hts : ∀ t ∈ ts, t ∈ own.map (·.2) := by decide) (hs : ∀ x, foldedSetIterable iter X.env x = pure x := by intro _; rfl) : DS X G W (.Assign [.Name y py] (.ListComp elt [⟨tg, iter, [c], 0⟩] scope pos) spos) (sSet i (wLc wi wg wt we (own.map (·.2)))) :=
  PS.imp (ps_setLc hc hN hy hyl hsw hi ok hg (fun s H C cl fp => pts_one (ht s H C cl fp)) he hs) fun D σ H h => lc_of hts (fun _ _ _ h => h) (fun _ _ _ h => h) (set_of h)
/-- len(set(bs)), at most one truth value -/
def wLenSetB (we : WE') : WE' := fun δ P PX => we δ (fun r => ∃ (b : Bool) (n : Nat), r.lst = some (List.replicate n (PyData.bool b)) ∧ P (.im (.int (if n = 0 then 0 else 1)))) PX
theorem RepL.same {K : PySem.W.Frag} {F : Hp} {b : Bool} : ∀ {n : Nat} {us : List V}, RepL K F us (List.replicate n (PyData.bool b)) → us = List.replicate n (V.bl b)
  | 0, _, h => by cases h; rfl
  | n + 1, _, h => by
    rw [List.replicate_succ] at h
    cases h with
    | cons r t => cases r; rw [RepL.same t]; rfl
theorem de_lenSetB (hc : X.calm = true) (hg : Gl X "len") (hm : X.mg "len" = none) (hg2 : Gl X "set") (hm2 : X.mg "set" = none) (ha : DE X G W a we) (na : starEach [a] X.env = (false, eval a X.env) :: starEach [] X.env := by rfl) : DE X G W (.Call (.Name "len" p) [.Call (.Name "set" np) [a] [] q] [] pos) (wLenSetB we) :=
  PE.imp (pe_lenSetB hc hg hm hg2 hm2 ha na) fun σ H Q ⟨F, δ, P, PX, S, q, k, xk⟩ => by
    refine ⟨F, δ, _, PX, S, q, fun v F1 H1 r x1 q1 ⟨b, n, e, p1⟩ => ?_, xk⟩
    obtain ⟨l, us, rfl, hl, ll⟩ := q1.list x1.le e
    rw [RepL.same ll] at hl
    refine ⟨l, b, n, rfl, hl, k _ F1 H1 (.im (.int (min n 1 : Nat))) x1 (.int _) ?_⟩
    have : ((min n 1 : Nat) : Int) = if n = 0 then 0 else 1 := by split <;> omega
    rw [this]
    exact p1
end
end DW
set_option Elab.async false
set_option linter.all false
set_option maxRecDepth 100000
set_option maxHeartbeats 4000000
namespace DW
open PySem PySem.Spec L2
/-! ### how wishes are met -/
inductive All2 {α β : Type} (C : α → β → Prop) : List α → List β → Prop where
  | nil : All2 C [] []
  | cons {a : α} {b : β} {l : List α} {m : List β} : C a b → All2 C l m → All2 C (a :: l) (b :: m)
section
variable {α : Type} {wg : WG} {wt : WT} {we wk wv : WE'} {wb : WS} {δ0 δ : DEnv}
theorem lc_run {P : List D → Prop} (h g : α → D) : ∀ (l : List α) (acc : List D), (∀ x ∈ l, ∀ Q : R → Prop, Q (.im (g x)) → wg (h x) δ0 fun δ1 => we δ1 Q fun _ => False) → acc.length + l.length ≤ sizeLine → P (acc ++ l.map g) → lcGo wg wtYes we P δ0 (l.map h) acc
  | [], acc, _, _, p => by rw [List.map_nil, List.append_nil] at p; exact p
  | x :: l, acc, st, hz, p => by
    rw [List.length_cons] at hz
    have q := lc_run (P := P) h g l (acc ++ [g x]) (fun y hy => st y (List.mem_cons_of_mem _ hy)) (by rw [List.length_append, List.length_singleton]; omega) (by rw [List.map_cons] at p; rw [List.append_assoc]; exact p)
    exact st x List.mem_cons_self (fun r => ∃ d', r.dat = some d' ∧ acc.length < sizeLine ∧ lcGo wg wtYes we P δ0 (l.map h) (acc ++ [d'])) ⟨g x, rfl, by omega, q⟩
/-- elements that are made of whatever (a draw): what may come -/
theorem lc_any {P : List D → Prop} (h : α → D) (C : α → D → Prop) : ∀ (l : List α) (acc : List D), (∀ x ∈ l, ∀ Q : R → Prop, (∀ v, C x v → Q (.im v)) → wg (h x) δ0 fun δ1 => we δ1 Q fun _ => False) → acc.length + l.length ≤ sizeLine →
    (∀ out : List D, All2 C l out → P (acc ++ out)) → lcGo wg wtYes we P δ0 (l.map h) acc
  | [], acc, _, _, p => by have := p [] .nil; rw [List.append_nil] at this; exact this
  | x :: l, acc, st, hz, p => by
    rw [List.length_cons] at hz
    refine st x List.mem_cons_self (fun r => ∃ d', r.dat = some d' ∧ acc.length < sizeLine ∧ lcGo wg wtYes we P δ0 (l.map h) (acc ++ [d'])) fun v cv => ⟨v, rfl, by omega, ?_⟩
    exact lc_any (P := P) h C l (acc ++ [v]) (fun y hy => st y (List.mem_cons_of_mem _ hy)) (by rw [List.length_append, List.length_singleton]; omega) fun out ho => by rw [List.append_assoc]; exact p (v :: out) (.cons cv ho)
theorem lc_runIf {P : List D → Prop} (h g : α → D) (c : α → Bool) : ∀ (l : List α) (acc : List D), (∀ x ∈ l, ∀ Q : Bool → DEnv → Prop, (∀ δ1 b, b = c x → (∀ S : R → Prop, S (.im (g x)) → we δ1 S fun _ => False) → Q b δ1) → wg (h x) δ0 fun δ1 => wt δ1 (fun b => Q b δ1) fun _ => False) →
    acc.length + l.length ≤ sizeLine → P (acc ++ (l.filter c).map g) → lcGo wg wt we P δ0 (l.map h) acc
  | [], acc, _, _, p => by rw [List.filter_nil, List.map_nil, List.append_nil] at p; exact p
  | x :: l, acc, st, hz, p => by
    rw [List.length_cons] at hz
    refine st x List.mem_cons_self (fun b δ1 => if b = true then we δ1 (fun r => ∃ d', r.dat = some d' ∧ acc.length < sizeLine ∧ lcGo wg wt we P δ0 (l.map h) (acc ++ [d'])) (fun _ => False) else lcGo wg wt we P δ0 (l.map h) acc) fun δ1 b eb hw => ?_
    subst eb
    cases e : c x with
    | true =>
      rw [if_pos rfl]
      refine hw _ ⟨g x, rfl, by omega, ?_⟩
      exact lc_runIf (P := P) h g c l (acc ++ [g x]) (fun y hy => st y (List.mem_cons_of_mem _ hy)) (by rw [List.length_append, List.length_singleton]; omega) (by rw [List.filter_cons, if_pos e, List.map_cons] at p; rw [List.append_assoc]; exact p)
    | false =>
      rw [if_neg Bool.false_ne_true]
      exact lc_runIf (P := P) h g c l acc (fun y hy => st y (List.mem_cons_of_mem _ hy)) (by omega) (by rw [List.filter_cons, if_neg (by rw [e]; exact Bool.false_ne_true)] at p; exact p)
theorem for_run {E : DEnds} (h : α → D) (I : List α → DEnv → Prop) (fin : ∀ l δ, I l δ → E.nx δ → E.nx δ) : ∀ (l pre : List α) (δ : DEnv), I pre δ →
    (∀ pre' x suf δ (N : DEnv → Prop), pre ++ l = pre' ++ x :: suf → I pre' δ → (∀ δ', I (pre' ++ [x]) δ' → N δ') → wg (h x) δ fun δ1 => wb { E with nx := N, ct := N, bk := E.nx } δ1) → (∀ δ, I (pre ++ l) δ → E.nx δ) → forGo wg wb E (l.map h) δ
  | [], pre, δ, i, _, f => by rw [List.append_nil] at f; exact f δ i
  | x :: l, pre, δ, i, st, f => by
    refine st pre x l δ _ rfl i fun δ' i' => ?_
    exact for_run h I fin l (pre ++ [x]) δ' i' (fun pre' y suf δ N e => st pre' y suf δ N (by rw [← e, List.append_assoc]; rfl)) fun δ hδ => f δ (by rw [List.append_assoc] at hδ; exact hδ)
theorem for_all {E : DEnds} (h : α → D) (I : List α → DEnv → Prop) (l : List α) (δ : DEnv) (i : I [] δ) (st : ∀ pre x suf δ (N : DEnv → Prop), l = pre ++ x :: suf → I pre δ → (∀ δ', I (pre ++ [x]) δ' → N δ') → wg (h x) δ fun δ1 => wb { E with nx := N, ct := N, bk := E.nx } δ1)
    (f : ∀ δ, I l δ → E.nx δ) : forGo wg wb E (l.map h) δ := for_run h I (fun _ _ _ h => h) l [] δ i st f
end
/-- the slots, written out -/
theorem env {p : DEnv → Prop} {δ : DEnv} (δ' : DEnv) (e : δ' = δ) (h : p δ') : p δ := e ▸ h
theorem intsD_map {lo : Int} {n : Nat} : intsD lo n = (List.range n).map fun i : Nat => PyData.int (lo + (i : Nat)) := rfl
theorem intsD0 {n : Nat} : intsD 0 n = (List.range n).map fun i : Nat => PyData.int (i : Nat) := by
  unfold intsD
  exact List.map_congr_left fun i _ => by rw [Int.zero_add]
theorem at_nat {α : Type} {xs : List α} {i : Nat} {d : α} (h : xs[i]? = some d) : atI xs (i : Int) = some d := by
  have hl : i < xs.length := (List.getElem?_eq_some_iff.mp h).1
  unfold atI ixN
  rw [if_pos (Int.natCast_nonneg _), if_pos (by omega)]
  exact h
theorem atI_last {α : Type} {xs : List α} {d : α} (h : xs.getLast? = some d) : atI xs (-1) = some d := by
  have hl : 0 < xs.length := by
    cases xs with
    | nil => cases h
    | cons => simp
  unfold atI ixN
  rw [if_neg (by decide), if_pos (by omega)]
  have e : (-1 + (xs.length : Int)).toNat = xs.length - 1 := by omega
  show xs[(-1 + (xs.length : Int)).toNat]? = some d
  rw [e, ← List.getLast?_eq_getElem?]
  exact h
end DW
set_option Elab.async false
set_option linter.all false
set_option maxRecDepth 100000
set_option maxHeartbeats 4000000
namespace DW
open PySem PySem.Spec L2
/-! ### data that can be compared -/
def Sh (k : Nat) (d : D) : Prop := d.canLay0 = true ∧ d.depth ≤ k
theorem Sh.mono {k j : Nat} {d : D} (h : Sh k d) (q : k ≤ j) : Sh j d := ⟨h.1, Nat.le_trans h.2 q⟩
theorem Sh.int (i : Int) : Sh 0 (.int i) := ⟨by simp [PyData.canLay0], by simp [PyData.depth]⟩
theorem Sh.bool (i : Bool) : Sh 0 (.bool i) := ⟨by simp [PyData.canLay0], by simp [PyData.depth]⟩
theorem Sh.non : Sh 0 .none := ⟨by simp [PyData.canLay0], by simp [PyData.depth]⟩
theorem Sh.all {k : Nat} : ∀ {ds : List D}, (∀ d ∈ ds, Sh k d) → PyData.canLayAll0 ds = true ∧ PyData.depthAll ds ≤ k
  | [], _ => ⟨by simp [PyData.canLayAll0], by simp [PyData.depthAll]⟩
  | d :: ds, h => by
    obtain ⟨a, b⟩ := h d List.mem_cons_self
    obtain ⟨a', b'⟩ := Sh.all fun e he => h e (List.mem_cons_of_mem _ he)
    exact ⟨by simp [PyData.canLayAll0, a, a'], by rw [PyData.depthAll]; omega⟩
theorem Sh.tup {k : Nat} {ds : List D} (h : ∀ d ∈ ds, Sh k d) : Sh (k + 1) (.tuple ds) := ⟨by rw [PyData.canLay0]; exact (Sh.all h).1, by rw [PyData.depth]; have := (Sh.all h).2; omega⟩
theorem Sh.lst {k : Nat} {ds : List D} (h : ∀ d ∈ ds, Sh k d) : Sh (k + 1) (.list ds) := ⟨by rw [PyData.canLay0]; exact (Sh.all h).1, by rw [PyData.depth]; have := (Sh.all h).2; omega⟩
theorem Sh.shaped {k : Nat} {d : D} (h : Sh k d) (q : k ≤ 64) : SeqAt.shaped d = true := by
  unfold SeqAt.shaped
  rw [h.1, decide_eq_true (Nat.le_trans h.2 q)]; rfl
theorem eqv_self {k : Nat} {d : D} (h : Sh k d) : PyData.eqv d d = true := SeqAt.eqv_refl d h.1
theorem eqv_ints : ∀ {xs ys : List Int}, PyData.eqvAll (xs.map PyData.int) (ys.map PyData.int) = decide (xs = ys)
  | [], [] => rfl
  | [], _ :: _ => rfl
  | _ :: _, [] => rfl
  | x :: xs, y :: ys => by
    rw [List.map_cons, List.map_cons, PyData.eqvAll, eqv_ints, PyData.eqv]
    by_cases h : x = y
    · subst h; simp
    · simp [h]
end DW
set_option Elab.async false
set_option linter.all false
set_option maxRecDepth 100000
set_option maxHeartbeats 4000000
namespace DW
open PySem PySem.Spec L2
/-! ### a law's def, its end -/
abbrev FnP (K : PySem.W.Frag) (x : Str) (st : Stmt) (f : Addr) (fd : FuncData) : Prop := FunD K x x (defArgs st) (defBody st) (defScope st) [] [] f fd
theorem fun_of {K : PySem.W.Frag} {x : Str} {st : Stmt} {f : Addr} {fd : FuncData} (F : FnP K x st f fd) : L2.Fun K x x st f fd := by
  obtain ⟨oc, od, dV, kV, doc, pm, an, cdv, ct, osl, e, lk, hcd, hD, hK⟩ := F.ex
  rcases hD with ⟨_, rfl⟩ | ⟨z, _⟩
  · exact ⟨⟨oc, od, kV, doc, pm, an, cdv, ct, osl, e, lk, hcd⟩, F.kp⟩
  · exact absurd rfl z
def spLaw (K : PySem.W.Frag) : Sp := fun vs H Q _ => ∃ (a : Addr) (ns : List Int), vs = [.ref a] ∧ SqL K H a (ns.map V.int) ∧ ns.length ≤ 63 ∧ (∀ z ∈ ns, Builtin.Int.intBits z ≤ 1048576) ∧ ∀ H', Q (.bl true) H'
theorem big_bits {z : Int} (h : Builtin.Int.intBits z ≤ 1048576) : Big z := by
  unfold Big
  by_cases e : z.natAbs = 0
  · rw [e]; exact Nat.two_pow_pos _
  · refine (Nat.log2_lt e).mp ?_
    unfold Builtin.Int.intBits at h
    split at h
    · rename_i hz
      have : z = 0 := by simpa using hz
      subst this; exact absurd rfl e
    · omega
/-- what stands behind the first statement: whatever the ground -/
def tRest (K : PySem.W.Frag) (W : WX) (ws : WS) : TS := fun D σ H => ∃ G, dTS K G W ws D σ H
theorem law_tail {X : Cx} {W : WX} {ss : List Stmt} {ws : WS} (h : ∀ G, DSs X G W ss ws) : PSs X ss (tRest X.K W ws) := ⟨fun pins s σ H D I ⟨G, q⟩ => (h G).run pins s σ H D I q⟩
theorem law_start {K : PySem.W.Frag} {W : WX} {ws : WS} {N : List Str} {n : Nat} (hN : N.length = n + 2) (sem : ∀ (P : R → Prop) (PX : DX → Prop), P (.im (.bool true)) → ws (fnEnds P PX) (none :: some .drw :: List.replicate n none))
    {vs : List V} {H : Hp} {Q : VK} {E : XK} (h : spLaw K vs H Q E) : tSeq (tAsg (tCall (spBegin K) [] E0 (tCons (tVar 0) tNil)) (gName 1)) (tRest K W ws) { nx := fun _ H' => Q .non H', rt := Q } (L2.start N vs) H := by
  obtain ⟨a, ns, rfl, hS, hl, hz, hQ⟩ := h
  have hs : L2.start N [V.ref a] = some (.ref a) :: List.replicate (n + 1) none := by
    unfold L2.start
    rw [hN]; rfl
  rw [hs]
  refine ⟨_, rfl, a, ns, rfl, hS, fun H' p q c le hp hq ne e1 e2 c0 c1 => ?_⟩
  let F : Hp := upd (fun _ => none) q (.lst (ns.map V.int))
  have hFp : F p = none := upd_ne ne
  have hFq : F q = some (.lst (ns.map V.int)) := upd_same
  have sub : Sub F H' := fun b o e => by
    by_cases hb : b = q
    · subst hb; rw [hFq] at e; rw [← e]; exact e1
    · have : F b = none := upd_ne hb
      rw [this] at e; cases e
  let d : Dw := ⟨p, q, ns⟩
  have ok : DwOk F H' d := ⟨hFp, ⟨0, 0, c, e2, Int.le_refl _, Nat.two_pow_pos _, c0, c1⟩, hFq, hl, fun z hzm => big_bits (hz z hzm)⟩
  have x : Ext (some d) F H' F H' := Ext.refl sub fun d' e => by cases e; exact ok
  refine ⟨⟨some d, F, H'⟩, F, none :: some .drw :: List.replicate n none, fnEnds (fun r => r = .im (.bool true)) (fun _ => False), ?_, sem _ _ rfl, ?_⟩
  · have b := RepS.bare (K := K) (G := ⟨some d, F, H'⟩) x (some (.ref a) :: List.replicate (n + 1) none)
    have st := b.store (i := 1) (v := .ref p) (s := .drw) ⟨d, rfl, rfl⟩ fun z => nomatch z
    have el : (List.replicate (some (V.ref a) :: List.replicate (n + 1) none).length (none : Option SV)).set 1 (some .drw) = none :: some .drw :: List.replicate n none := by
      rw [List.length_cons, List.length_replicate]; rfl
    rw [el] at st
    exact st
  · refine ⟨fun σ' F' H' δ' _ _ z => (by cases z), fun _ _ _ _ _ _ z => z.elim, fun _ _ _ _ _ _ z => z.elim, fun v F' H' r _ rr z => ?_, fun _ _ _ _ _ _ _ _ z => z.elim⟩
    obtain ⟨_, z⟩ := z
    subst z
    cases rr
    exact hQ H'
end DW
namespace DW
open PySem PySem.Spec PyProof.Rows L2
theorem walk_bits {l : PySem.W.OpenLaw} {n k : Nat} {q : Program} {loose : List Str} {XP : (Str → Option Value) → Heap → Prop} {YP : World → Heap → Prop} {d : DefRec} {CX : World → CXT} {x : Str} (hn : l.most = some n) (hn2 : n ≤ sizeLine) (hdf : d.params.defaults = []) (hr : Room k callerA)
    (F : ∀ (w : World) (mg : Str → Option Value) (fa : Addr) (h : Heap), YP w h → h.Ns mainGlobals mg → mg d.name = some (.ref fa) → ∃ (K : PySem.W.Frag) (fd : FuncData) (sp : Sp), K.In h ∧ (∀ (s : Shared) (u : Value), BindsTo s fd ⟨[u], []⟩ [(x, u)]) ∧
        (∀ (H : Hp) (a : Addr) (ns : List Int), ns.length ≤ n → (∀ z ∈ ns, Builtin.Int.intBits z ≤ 1048576) → SqL K H a (ns.map V.int) → sp [.ref a] H (fun v _ => v = .bl true) fun _ _ _ => False) ∧ ∀ base : Heap, K.In base → base.Ns mainGlobals mg → FnOk l.prog w K mg base (CX w) k fa fd [x] sp)
    (hCX : ∀ (w : World) (H : Hp) (s : Shared) (e : Value) (s' : Shared), CX w [] H s (fun _ _ _ => False) e s' → False) : PySem.W.WalkO q loose XP YP l.row.toRowW d [] (fun f vs => PySem.call f vs) := by
  refine Att.attach_callB hn hdf fun w s₀ s₁ mg mb fa o pm cd doc a vs ns G Y ho hd hcd hmg hobj hints hlen hbits hg => ?_
  obtain ⟨K, fd, sp, KX, hb, hsp, hF⟩ := F w mg fa _ Y G.T.g hmg
  exact law_call KX G.T.g G.T.b G.T.builtins G.T.nolimit hg hobj hints (Nat.le_trans hlen hn2) hr hF hb (fun H _ hS => hsp H a ns hlen hbits hS) fun H e s' => hCX w H s₁ e s'
end DW
set_option Elab.async false
set_option linter.all false
set_option maxRecDepth 100000
set_option maxHeartbeats 4000000
namespace DW
open PySem PySem.Spec L2
/-! ### slices -/
def cutD (xs : List D) (lo hi : Option Int) : List D := (xs.drop (HT.sIx xs.length 0 lo)).take (HT.sIx xs.length xs.length hi - HT.sIx xs.length 0 lo)
abbrev WO := DEnv → (Option Int → Prop) → (DX → Prop) → Prop
def dTO (K : PySem.W.Frag) (G : Gd) (W : WX) (wo : WO) : TO := fun σ H Q => ∃ F δ P PX, RepS K G F H σ δ ∧ wo δ P PX ∧ (∀ o F' H', Ext G.w F H F' H' → P o → Q o H') ∧ xok K G.w W F H σ PX
abbrev DO (X : Cx) (G : Gd) (W : WX) (o : Option Expr) (wo : WO) : Prop := PO X o (dTO X.K G W wo)
def woN : WO := fun _ P _ => P none
def woS (we : WE') : WO := fun δ P PX => we δ (fun r => ∃ i : Int, r = .im (.int i) ∧ P (some i)) PX
def kSlice (r : R) (lo hi : Option Int) (P : R → Prop) : Prop := match r with
  | .im (.str z) => z.length ≤ sizeLine ∧ P (.im (.str (Txt.slice z lo hi)))
  | .im (.tuple xs) => P (.im (.tuple (cutD xs lo hi)))
  | r => ∃ xs, r.lst = some xs ∧ P (.ol (cutD xs lo hi))
def wSlice (we : WE') (wl wh : WO) : WE' := fun δ P PX => we δ (fun r => wl δ (fun lo => wh δ (fun hi => kSlice r lo hi P) PX) PX) PX
section
variable {K : PySem.W.Frag} {w : Option Dw} {G : Gd} {F F1 F2 H H1 H2 : Hp} {σ : L2.St} {δ : DEnv} {X : Cx} {W : WX} {e a b : Expr} {we : WE'} {lo hi : Option Expr} {wl wh : WO} {pos p2 : Pos}
theorem RepL.cut {vs : List V} {ds : List D} (l : RepL K F vs ds) (lo hi : Option Int) : RepL K F (cutV vs lo hi) (cutD ds lo hi) := by
  unfold cutV cutD
  rw [RepL.length l]
  exact RepL.take _ (RepL.drop _ l)
theorem cut_all {α : Type} (xs : List α) {lo hi : Option Int} (h : HT.sIx xs.length 0 lo = 0 ∧ HT.sIx xs.length xs.length hi = xs.length) : (xs.drop (HT.sIx xs.length 0 lo)).take (HT.sIx xs.length xs.length hi - HT.sIx xs.length 0 lo) = xs := by
  rw [h.1, h.2, List.drop_zero, Nat.sub_zero, List.take_length]
theorem do_none : DO X G W none woN := ⟨fun pins s σ H Q I ⟨F, δ, P, PX, S, p, k, xk⟩ => po_none.run pins s σ H Q I (k none F H S.ext.stay p)⟩
theorem do_some (he : DE X G W e we) : DO X G W (some e) (woS we) := ⟨fun pins s σ H Q I ⟨F, δ, P, PX, S, p, k, xk⟩ => (po_some he).run pins s σ H Q I ⟨F, δ, _, PX, S, p, fun v F1 H1 r x1 q1 ⟨i, e, p1⟩ => by
  subst e
  cases q1
  exact ⟨i, rfl, k (some i) F1 H1 x1 p1⟩, xk⟩⟩
theorem de_slice (he : DE X G W e we) (hl : DO X G W lo wl) (hh : DO X G W hi wh) : DE X G W (.Subscript e (.Slice lo hi none p2) pos) (wSlice we wl wh) :=
  PE.imp (pe_slice ((sl_list.or sl_tupA).or C8.sl_txt) he hl hh) fun σ H Q ⟨F, δ, P, PX, S, q, k, xk⟩ => by
    refine ⟨F, δ, _, PX, S, q, fun x F1 H1 r x1 q1 p1 => ?_, xk⟩
    refine ⟨F1, δ, _, PX, S.to x1, p1, fun l F2 H2 x2 p2 => ?_, xk.to x1⟩
    refine ⟨F2, δ, _, PX, (S.to x1).to x2, p2, fun u F3 H3 x3 p3 => ?_, (xk.to x1).to x2⟩
    have x13 := (x1.trans x2).trans x3
    have q3 := (q1.to x2).to x3
    unfold kSlice at p3
    split at p3
    · rename_i z
      cases q3
      exact .inr ⟨z, rfl, p3.1, k _ F3 H3 (.im _) x13 (.str _) p3.2⟩
    · rename_i xs
      obtain ⟨a, vs, rfl, ha, la⟩ := RepR.tuple (K := X.K) (w := G.w) (H := H) x3.le q3 (xs := xs) rfl
      refine .inl (.inr ⟨a, vs, rfl, .inl (.inl (x3.le _ _ ha)), fun hw => ?_, fun _ p hp => ?_⟩)
      · have e1 : cutD xs l u = xs := by
          unfold cutD
          rw [← RepL.length la]
          rw [hw.1, hw.2, List.drop_zero, Nat.sub_zero, RepL.length la, List.take_length]
        rw [e1] at p3
        exact k _ F3 H3 (.im (.tuple xs)) x13 q3 p3
      · obtain ⟨x4, r4⟩ := new_tup (K := X.K) x3.stay hp (RepL.cut la l u)
        exact k _ _ _ _ (x13.trans x4) (r4.back x13) p3
    · obtain ⟨xs, e1, p4⟩ := p3
      obtain ⟨a, vs, rfl, ha, la⟩ := q3.list x3.le e1
      refine .inl (.inl ⟨a, vs, rfl, ha, fun p hp => ?_⟩)
      obtain ⟨x4, r4⟩ := new_list (K := X.K) x3.stay hp (RepL.cut la l u)
      exact k _ _ _ _ (x13.trans x4) (r4.back x13) p4
end
end DW
set_option Elab.async false
set_option linter.all false
set_option maxRecDepth 100000
set_option maxHeartbeats 4000000
namespace DW
open PySem PySem.Spec L2
section
variable {K : PySem.W.Frag} {w : Option Dw} {G : Gd} {F F1 F2 H H1 H2 : Hp} {σ : L2.St} {δ : DEnv} {X : Cx} {W : WX} {e a b : Expr} {we wa wb : WE'} {pos p : Pos}
def kDiv : KO := kIC CDiv fun i j => .int (i / j)
theorem de_fdiv (ha : DE X G W a wa) (hb : DE X G W b wb) : DE X G W (.BinOp a .FloorDiv b pos) (wOp kDiv wa wb) := de_op op_fdiv (opd_IC fun _ _ _ => .int _) ha hb
/-- list(xs) -/
def kListOf : KC := fun rs P => ∃ r xs, rs = [r] ∧ (r.lst = some xs ∨ r.tup = some xs) ∧ P (.ol xs)
theorem callD_listOf : CallD K (fun xs H Q => ∃ p ys, xs = [.ref p] ∧ (SqL K H p ys ∨ SqT K H p ys) ∧ ∀ l, H l = none → Q (.ref l) (upd H l (.lst ys))) kListOf := by
  rintro w H0 F H vs rs P Q x0 q ⟨r, xs, rfl, e, p⟩ k
  cases q with
  | cons a t =>
    cases t
    rcases e with e | e
    · obtain ⟨b, us, rfl, hb, lb⟩ := a.list x0.le e
      refine ⟨b, us, rfl, .inl hb, fun l hl => ?_⟩
      obtain ⟨x1, r1⟩ := new_list (K := K) x0 hl lb
      exact k _ _ _ _ x1 r1 p
    · obtain ⟨b, us, rfl, hb, lb⟩ := a.tuple x0.le e
      refine ⟨b, us, rfl, .inr (.inl (.inl (x0.le _ _ hb))), fun l hl => ?_⟩
      obtain ⟨x1, r1⟩ := new_list (K := K) x0 hl lb
      exact k _ _ _ _ x1 r1 p
def kMin2 : KC := fun rs P => ∃ i j : Int, rs = [.im (.int i), .im (.int j)] ∧ P (.im (.int (if j < i then j else i)))
theorem callD_min2 : CallD K (fun xs H Q => ∃ i j, xs = [.int i, .int j] ∧ Q (.int (if j < i then j else i)) H) kMin2 := by
  rintro w H0 F H vs rs P Q x0 q ⟨i, j, rfl, p⟩ k
  cases q with
  | cons a t =>
    cases t with
    | cons b u => cases u; cases a; cases b; exact ⟨i, j, rfl, k _ F H (.im _) x0 (.int _) p⟩
def kSum : KC := fun rs P => ∃ (r : R) (ns : List Int), rs = [r] ∧ r.lst = some (ns.map PyData.int) ∧ P (.im (.int ns.sum))
theorem callD_sum : CallD K (rSum K) kSum := by
  rintro w H0 F H vs rs P Q x0 q ⟨r, ns, rfl, e, p⟩ k
  cases q with
  | cons a t =>
    cases t
    obtain ⟨b, us, rfl, hb, lb⟩ := a.list x0.le e
    rw [RepL.isInts lb] at hb
    exact ⟨b, ns, rfl, hb, k _ F H (.im _) x0 (.int _) p⟩
def kMinL : KC := fun rs P => ∃ (r : R) (ns : List Int), rs = [r] ∧ r.lst = some (ns.map PyData.int) ∧ 0 < ns.length ∧ ∀ m, m ∈ ns → (∀ y, y ∈ ns → m ≤ y) → P (.im (.int m))
theorem callD_minL : CallD K (rMin K) kMinL := by
  rintro w H0 F H vs rs P Q x0 q ⟨r, ns, rfl, e, hn, p⟩ k
  cases q with
  | cons a t =>
    cases t
    obtain ⟨b, us, rfl, hb, lb⟩ := a.list x0.le e
    rw [RepL.isInts lb] at hb
    exact ⟨b, ns, rfl, hb, hn, fun m h1 h2 => k _ F H (.im _) x0 (.int _) (p m h1 h2)⟩
def kAbs : KC := fun rs P => ∃ i : Int, rs = [.im (.int i)] ∧ P (.im (.int (if i < 0 then -i else i)))
theorem callD_abs : CallD K (fun xs H Q => ∃ i, xs = [.int i] ∧ Q (.int (if i < 0 then -i else i)) H) kAbs := by
  rintro w H0 F H vs rs P Q x0 q ⟨i, rfl, p⟩ k
  cases q with
  | cons a t => cases t; cases a; exact ⟨i, rfl, k _ F H (.im _) x0 (.int _) p⟩
def kSortI : KC := fun rs P => ∃ (r : R) (ns : List Int), rs = [r] ∧ r.lst = some (ns.map PyData.int) ∧ ∀ ns' : List Int, ns'.Perm ns → ns'.Pairwise (· ≤ ·) → P (.ol (ns'.map PyData.int))
theorem callD_sortI : CallD K (rSortedI K) kSortI := by
  rintro w H0 F H vs rs P Q x0 q ⟨r, ns, rfl, e, p⟩ k
  cases q with
  | cons a t =>
    cases t
    obtain ⟨b, us, rfl, hb, lb⟩ := a.list x0.le e
    rw [RepL.isInts lb] at hb
    refine ⟨b, ns, rfl, hb, fun ns' l h1 h2 hl => ?_⟩
    obtain ⟨x1, r1⟩ := new_list (K := K) x0 hl (RepL.ints ns')
    exact k _ _ _ _ x1 r1 (p ns' h1 h2)
theorem RepL.strs : ∀ (ns : List Str), RepL K F (ns.map V.str) (ns.map PyData.str)
  | [] => .nil
  | n :: r => .cons (.str n) (RepL.strs r)
def kSortS : KC := fun rs P => ∃ (r : R) (ns : List Str), rs = [r] ∧ r.lst = some (ns.map PyData.str) ∧ ns.length < 64 ∧ ∀ ns' : List Str, ns'.Perm ns → PyProof.Rows.sortedS ns' = true → P (.ol (ns'.map PyData.str))
theorem callD_sortS : CallD K (rSortedS K) kSortS := by
  rintro w H0 F H vs rs P Q x0 q ⟨r, ns, rfl, e, hz, p⟩ k
  cases q with
  | cons a t =>
    cases t
    obtain ⟨b, us, rfl, hb, lb⟩ := a.list x0.le e
    rw [RepL.isStrs lb] at hb
    refine ⟨b, ns, rfl, hb, hz, fun ns' l h1 h2 hl => ?_⟩
    obtain ⟨x1, r1⟩ := new_list (K := K) x0 hl (RepL.strs ns')
    exact k _ _ _ _ x1 r1 (p ns' h1 h2)
end
end DW
set_option Elab.async false
set_option linter.all false
set_option maxRecDepth 100000
set_option maxHeartbeats 4000000
/-! FW: what a def over data computes, as a function (a tree of draws); the wishes of DW are met by it. -/
namespace FW
open PySem PySem.Spec L2 DW
/-- an exception: its class's name, its fields -/
structure Xn where
  nm : Str
  fs : List (Str × D)
def toX (K : PySem.W.Frag) (x : Xn) : DX := ⟨He.ga K x.nm, x.fs⟩
inductive Tr (α : Type) where
  | ok (a : α) | ex (x : Xn) | no | draw (m : Int) (k : Int → Tr α)
section
variable {α β γ : Type}
def Tr.bind : Tr α → (α → Tr β) → Tr β
  | .ok a, f => f a
  | .ex x, _ => .ex x
  | .no, _ => .no
  | .draw m k, f => .draw m fun r => (k r).bind f
def Tr.sat : Tr α → (α → Prop) → (Xn → Prop) → Prop
  | .ok a, P, _ => P a
  | .ex x, _, PX => PX x
  | .no, _, _ => False
  | .draw m k, P, PX => 1 ≤ m ∧ m < 1073741824 ∧ ∀ r, 0 ≤ r → r < m → (k r).sat P PX
theorem Tr.sat_ok {a : α} {P : α → Prop} {PX : Xn → Prop} : (Tr.ok a).sat P PX ↔ P a := Iff.rfl
theorem Tr.sat_ex {x : Xn} {P : α → Prop} {PX : Xn → Prop} : (Tr.ex x : Tr α).sat P PX ↔ PX x := Iff.rfl
theorem Tr.bind_ok {a : α} {f : α → Tr β} : (Tr.ok a).bind f = f a := rfl
theorem Tr.bind_ex {x : Xn} {f : α → Tr β} : (Tr.ex x : Tr α).bind f = .ex x := rfl
theorem Tr.bind_no {f : α → Tr β} : (Tr.no : Tr α).bind f = .no := rfl
theorem Tr.sat_bind {t : Tr α} {f : α → Tr β} {P : β → Prop} {PX : Xn → Prop} : (t.bind f).sat P PX ↔ t.sat (fun a => (f a).sat P PX) PX := by
  induction t with
  | ok a => exact Iff.rfl
  | ex x => exact Iff.rfl
  | no => exact Iff.rfl
  | draw m k ih => exact ⟨fun ⟨h1, h2, h⟩ => ⟨h1, h2, fun r r0 r1 => (ih r).mp (h r r0 r1)⟩, fun ⟨h1, h2, h⟩ => ⟨h1, h2, fun r r0 r1 => (ih r).mpr (h r r0 r1)⟩⟩
theorem Tr.sat_mono {t : Tr α} {P P' : α → Prop} {PX PX' : Xn → Prop} (h : t.sat P PX) (i : ∀ a, P a → P' a) (j : ∀ x, PX x → PX' x) : t.sat P' PX' := by
  induction t with
  | ok a => exact i a h
  | ex x => exact j x h
  | no => exact h
  | draw m k ih => exact ⟨h.1, h.2.1, fun r r0 r1 => ih r (h.2.2 r r0 r1)⟩
theorem Tr.sat_of {t : Tr α} {P P' : α → Prop} {PX : Xn → Prop} (h : t.sat P PX) (i : ∀ a, P a → P' a) : t.sat P' PX := Tr.sat_mono h i fun _ x => x
theorem Tr.bind_assoc {t : Tr α} {f : α → Tr β} {g : β → Tr γ} : (t.bind f).bind g = t.bind fun a => (f a).bind g := by
  induction t with
  | ok a => rfl
  | ex x => rfl
  | no => rfl
  | draw m k ih => exact congrArg (Tr.draw m) (funext fun r => ih r)
/-- t if c, else nothing is told -/
def gd (c : Bool) (t : Tr α) : Tr α := match c with
  | true => t
  | false => .no
theorem gd_sat {c : Bool} {t : Tr α} {P : α → Prop} {PX : Xn → Prop} (h : (gd c t).sat P PX) : c = true ∧ t.sat P PX := by
  cases c with
  | true => exact ⟨rfl, h⟩
  | false => exact h.elim
theorem gd_true {c : Bool} {t : Tr α} (h : c = true) : gd c t = t := by rw [h]; rfl
def ofO : Option α → Tr α
  | some a => .ok a
  | none => .no
theorem ofO_sat {o : Option α} {P : α → Prop} {PX : Xn → Prop} (h : (ofO o).sat P PX) : ∃ a, o = some a ∧ P a := by
  cases o with
  | some a => exact ⟨a, rfl, h⟩
  | none => exact h.elim
/-- no exception, no draw -/
def Tr.calm : Tr α → Prop
  | .ok _ => True
  | .no => True
  | _ => False
end
abbrev FE := DEnv → Tr R
abbrev FT := DEnv → Tr Bool
abbrev FA := DEnv → Tr (List R)
abbrev FI := DEnv → Tr (List D)
abbrev FG := D → DEnv → Tr DEnv
abbrev FGs := List D → DEnv → Tr DEnv
def wE (K : PySem.W.Frag) (f : FE) : WE' := fun δ P PX => (f δ).sat P fun x => PX (toX K x)
def wT (K : PySem.W.Frag) (f : FT) : WT := fun δ P PX => (f δ).sat P fun x => PX (toX K x)
def wA (K : PySem.W.Frag) (f : FA) : WA := fun δ P PX => (f δ).sat P fun x => PX (toX K x)
def wI (K : PySem.W.Frag) (f : FI) : WI := fun δ P PX => (f δ).sat P fun x => PX (toX K x)
def wG (f : FG) : WG := fun d δ P => (f d δ).sat P fun _ => False
def wGs (f : FGs) : WGs := fun d δ P => (f d δ).sat P fun _ => False
section
variable {X : Cx} {G : Gd} {W : WX} {st : Bool} {tg e a b c : Expr} {es rest : List Expr} {we we' : WE'} {wt wt' : WT} {wa wa' : WA} {wi wi' : WI} {ts : List Nat} {wg wg' : WG} {wgs wgs' : WGs} {pos : Pos}
theorem DE.imp (h : DE X G W e we) (i : ∀ δ P PX, we' δ P PX → we δ P PX) : DE X G W e we' := PE.imp h fun σ H Q ⟨F, δ, P, PX, S, p, k, xk⟩ => ⟨F, δ, P, PX, S, i _ _ _ p, k, xk⟩
theorem DT.imp (h : DT X G W e wt) (i : ∀ δ P PX, wt' δ P PX → wt δ P PX) : DT X G W e wt' := PT.imp h fun σ H Q ⟨F, δ, P, PX, S, p, k, xk⟩ => ⟨F, δ, P, PX, S, i _ _ _ p, k, xk⟩
theorem DWw.imp (h : DW_ X G W e wt) (i : ∀ δ P PX, wt' δ P PX → wt δ P PX) : DW_ X G W e wt' := PW.imp h fun σ H Q ⟨F, δ, P, PX, S, p, k, xk⟩ => ⟨F, δ, P, PX, S, i _ _ _ p, k, xk⟩
theorem DA.imp (h : DA X G W es wa) (i : ∀ δ P PX, wa' δ P PX → wa δ P PX) : DA X G W es wa' := PA.imp h fun σ H Q ⟨F, δ, P, PX, S, p, k, xk⟩ => ⟨F, δ, P, PX, S, i _ _ _ p, k, xk⟩
theorem DI.imp (h : DI X G W st tg e wi) (i : ∀ δ P PX, wi' δ P PX → wi δ P PX) : DI X G W st tg e wi' := PI.imp h fun σ H Q ⟨F, δ, P, PX, S, p, k, xk⟩ => ⟨F, δ, P, PX, S, i _ _ _ p, k, xk⟩
theorem DG.imp (h : DG X G ts e wg) (i : ∀ d δ P, wg' d δ P → wg d δ P) : DG X G ts e wg' := PG.imp h fun v σ H Q ⟨F, δ, d, P, S, r, p, k⟩ => ⟨F, δ, d, P, S, r, i _ _ _ p, k⟩
theorem DGs.imp (h : DGs X G ts es wgs) (i : ∀ d δ P, wgs' d δ P → wgs d δ P) : DGs X G ts es wgs' := PGs.imp h fun v σ H Q ⟨F, δ, d, P, S, r, p, k⟩ => ⟨F, δ, d, P, S, r, i _ _ _ p, k⟩
end
def slotD (δ : DEnv) (i : Nat) : Option SV := match δ[i]? with
  | some (some s) => some s
  | _ => none
theorem slotD_eq {δ : DEnv} {i : Nat} {s : SV} (h : slotD δ i = some s) : δ[i]? = some (some s) := by
  unfold slotD at h
  split at h
  · rename_i s' e
    rw [e, Option.some.inj h]
  · cases h

/-! ### the functions -/
def fV (i : Nat) : FE := fun δ => match slotD δ i with
  | some s => .ok s.read
  | none => .no
def fC (d : D) : FE := fun _ => .ok (.im d)
abbrev G2 := R → R → Tr R
def fOp (g : G2) (fa fb : FE) : FE := fun δ => (fa δ).bind fun x => (fb δ).bind fun y => g x y
/-- g is good for k -/
def KG (k : KO) (g : G2) : Prop := ∀ a b P PX, (g a b).sat P PX → k a b P
def szOk (n : Nat) : Bool := decide (n ≤ 16777216)
theorem szOk_ok {n : Nat} (h : szOk n = true) : n ≤ sizeLine := by rw [sizeLine_eq]; exact of_decide_eq_true h
def gI (f : Int → Int → D) : G2 := fun x y => match x, y with
  | .im (.int i), .im (.int j) => .ok (.im (f i j))
  | _, _ => .no
def gIC (C : Int → Int → Bool) (f : Int → Int → D) : G2 := fun x y => match x, y with
  | .im (.int i), .im (.int j) => gd (C i j) (.ok (.im (f i j)))
  | _, _ => .no
theorem kg_I {f : Int → Int → D} : KG (kI f) (gI f) := by
  intro a b P PX h
  unfold gI at h
  split at h
  · exact ⟨_, _, rfl, rfl, h⟩
  · exact h.elim
theorem kg_IC {C : Int → Int → Prop} {c : Int → Int → Bool} {f : Int → Int → D} (hc : ∀ i j, c i j = true → C i j) : KG (kIC C f) (gIC c f) := by
  intro a b P PX h
  unfold gIC at h
  split at h
  · obtain ⟨h1, h2⟩ := gd_sat h
    exact ⟨_, _, rfl, rfl, hc _ _ h1, h2⟩
  · exact h.elim
def gAdd : G2 := fun x y => match x, y with
  | .im (.int i), .im (.int j) => .ok (.im (.int (i + j)))
  | .im (.str a), .im (.str b) => gd (szOk (a.length + b.length)) (.ok (.im (.str (a ++ b))))
  | .im (.tuple xs), .im (.tuple ys) => gd (szOk (xs.length + ys.length)) (.ok (.im (.tuple (xs ++ ys))))
  | x, y => match x.own, y.own with
    | some xs, some ys => gd (szOk (xs.length + ys.length)) (.ok (.ol (xs ++ ys)))
    | _, _ => .no
theorem kg_add : KG kAdd gAdd := by
  intro a b P PX h
  unfold gAdd at h
  split at h
  · exact h
  · obtain ⟨h1, h2⟩ := gd_sat h
    exact ⟨szOk_ok h1, h2⟩
  · obtain ⟨h1, h2⟩ := gd_sat h
    exact ⟨szOk_ok h1, h2⟩
  · rename_i h1 h2 h3
    unfold kAdd
    split at h
    · rename_i xs ys e1 e2
      obtain ⟨h5, h6⟩ := gd_sat h
      split
      · cases e1
      · cases e1
      · cases e1
      · exact ⟨xs, ys, e1, e2, szOk_ok h5, h6⟩
    · exact h.elim
def gSub : G2 := gI fun i j => .int (i - j)
def gLt : G2 := gI fun i j => .bool (decide (i < j))
def gLe : G2 := gI fun i j => .bool (decide (i ≤ j))
def gGt : G2 := gI fun i j => .bool (decide (j < i))
def gGe : G2 := gI fun i j => .bool (decide (j ≤ i))
def gMod : G2 := gIC (fun _ j => decide (0 < j)) fun i j => .int (i % j)
def mulOk (i j : Int) : Bool := (decide (-1073741824 ≤ i) && decide (i ≤ 1073741824)) || (decide (-1073741824 ≤ j) && decide (j ≤ 1073741824))
def gMul : G2 := gIC mulOk fun i j => .int (i * j)
def divOk (j : Int) : Bool := decide (1 ≤ j) && decide (j < 1073741824)
def gDiv : G2 := gIC (fun _ j => divOk j) fun i j => .int (i / j)
def shp (d : D) : Bool := SeqAt.shaped d
def gEq : G2 := fun x y => match x.datA, y.datA with
  | some d, some e => gd (shp d && shp e) (.ok (.im (.bool (PyData.eqv d e))))
  | _, _ => .no
def gNe : G2 := fun x y => match x.datA, y.datA with
  | some d, some e => gd (shp d && shp e) (.ok (.im (.bool (!PyData.eqv d e))))
  | _, _ => .no
theorem kg_eq : KG kEq gEq := by
  intro a b P PX h
  unfold gEq at h
  split at h
  · rename_i d e e1 e2
    obtain ⟨h1, h2⟩ := gd_sat h
    rw [Bool.and_eq_true] at h1
    exact ⟨d, e, e1, e2, h1.1, h1.2, h2⟩
  · exact h.elim
theorem kg_ne : KG kNe gNe := by
  intro a b P PX h
  unfold gNe at h
  split at h
  · rename_i d e e1 e2
    obtain ⟨h1, h2⟩ := gd_sat h
    rw [Bool.and_eq_true] at h1
    exact ⟨d, e, e1, e2, h1.1, h1.2, h2⟩
  · exact h.elim
def isNon : D → Bool
  | .none => true
  | _ => false
def gIsN (neg : Bool) : G2 := fun x y => match x, y with
  | .im d, .im .none => .ok (.im (.bool (if neg then !isNon d else isNon d)))
  | _, _ => .no
theorem kg_isN : KG kIsN (gIsN false) := by
  intro a b P PX h
  unfold gIsN at h
  split at h
  · rename_i d
    refine ⟨d, rfl, rfl, ?_⟩
    cases d <;> exact h
  · exact h.elim
theorem kg_notN : KG kNotN (gIsN true) := by
  intro a b P PX h
  unfold gIsN at h
  split at h
  · rename_i d
    refine ⟨d, rfl, rfl, ?_⟩
    cases d <;> exact h
  · exact h.elim
def gInL (neg : Bool) : G2 := fun x y => match x.datA, y.lst with
  | some d, some ds => gd (shp d && shp (.list ds)) (.ok (.im (.bool (if neg then !inD d ds else inD d ds))))
  | _, _ => .no
theorem kg_inL {neg : Bool} : KG (kInL neg) (gInL neg) := by
  intro a b P PX h
  unfold gInL at h
  split at h
  · rename_i d ds e1 e2
    obtain ⟨h1, h2⟩ := gd_sat h
    rw [Bool.and_eq_true] at h1
    exact ⟨d, ds, e1, e2, h1.1, h1.2, h2⟩
  · exact h.elim
def intsOf : List D → Option (List Int)
  | [] => some []
  | .int i :: r => (intsOf r).map (i :: ·)
  | _ => none
theorem intsOf_eq : ∀ {ds : List D} {ns : List Int}, intsOf ds = some ns → ds = ns.map PyData.int
  | [], _, h => by cases h; rfl
  | d :: r, ns, h => by
    cases d with
    | int i =>
      unfold intsOf at h
      cases e : intsOf r with
      | none => rw [e] at h; cases h
      | some ms => rw [e] at h; cases h; rw [intsOf_eq e]; rfl
    | _ => cases h
theorem intsOf_map : ∀ (ns : List Int), intsOf (ns.map PyData.int) = some ns
  | [] => rfl
  | n :: r => by show (intsOf (r.map PyData.int)).map (n :: ·) = _; rw [intsOf_map r]; rfl
def strsOf : List D → Option (List Str)
  | [] => some []
  | .str i :: r => (strsOf r).map (i :: ·)
  | _ => none
theorem strsOf_eq : ∀ {ds : List D} {ns : List Str}, strsOf ds = some ns → ds = ns.map PyData.str
  | [], _, h => by cases h; rfl
  | d :: r, ns, h => by
    cases d with
    | str i =>
      unfold strsOf at h
      cases e : strsOf r with
      | none => rw [e] at h; cases h
      | some ms => rw [e] at h; cases h; rw [strsOf_eq e]; rfl
    | _ => cases h
theorem strsOf_map : ∀ (ns : List Str), strsOf (ns.map PyData.str) = some ns
  | [] => rfl
  | n :: r => by show (strsOf (r.map PyData.str)).map (n :: ·) = _; rw [strsOf_map r]; rfl
def boolsOf : List D → Option (List Bool)
  | [] => some []
  | .bool i :: r => (boolsOf r).map (i :: ·)
  | _ => none
theorem boolsOf_eq : ∀ {ds : List D} {ns : List Bool}, boolsOf ds = some ns → ds = ns.map PyData.bool
  | [], _, h => by cases h; rfl
  | d :: r, ns, h => by
    cases d with
    | bool i =>
      unfold boolsOf at h
      cases e : boolsOf r with
      | none => rw [e] at h; cases h
      | some ms => rw [e] at h; cases h; rw [boolsOf_eq e]; rfl
    | _ => cases h
theorem boolsOf_map : ∀ (ns : List Bool), boolsOf (ns.map PyData.bool) = some ns
  | [] => rfl
  | n :: r => by show (boolsOf (r.map PyData.bool)).map (n :: ·) = _; rw [boolsOf_map r]; rfl
def gInT (neg : Bool) : G2 := fun x y => match x, y with
  | .im (.int i), .im (.tuple ds) => (ofO (intsOf ds)).bind fun ns => .ok (.im (.bool (if neg then !decide (i ∈ ns) else decide (i ∈ ns))))
  | _, _ => .no
theorem kg_inT {neg : Bool} : KG (kInT neg) (gInT neg) := by
  intro a b P PX h
  unfold gInT at h
  split at h
  · obtain ⟨ns, e, p⟩ := ofO_sat (Tr.sat_bind.mp h)
    exact ⟨_, ns, rfl, by rw [intsOf_eq e], p⟩
  · exact h.elim
def sign1 (s : Str) : Option Nat := match s.cps.toList with
  | [c] => some c
  | _ => none
theorem sign1_eq {s : Str} {c : Nat} (h : sign1 s = some c) : s = ⟨#[c]⟩ := by
  obtain ⟨⟨l⟩⟩ := s
  unfold sign1 at h
  split at h
  · rename_i e
    have e' : l = [_] := e
    cases h
    rw [e']
  · cases h
def gInS (neg : Bool) : G2 := fun x y => match x, y with
  | .im (.str s), .im (.str z) => (ofO (sign1 s)).bind fun c => .ok (.im (.bool (if neg then !decide (c ∈ z.cps.toList) else decide (c ∈ z.cps.toList))))
  | _, _ => .no
theorem kg_inS {neg : Bool} : KG (kInS neg) (gInS neg) := by
  intro a b P PX h
  unfold gInS at h
  split at h
  · obtain ⟨c, e, p⟩ := ofO_sat (Tr.sat_bind.mp h)
    exact ⟨c, _, by rw [sign1_eq e], rfl, p⟩
  · exact h.elim
def gIx : G2 := fun x y => match x, y with
  | .im (.str s), .im (.int i) => gd (szOk s.length) ((ofO (atI s.cps.toList i)).bind fun c => .ok (.im (.str ⟨#[c]⟩)))
  | .im (.tuple xs), .im (.int i) => (ofO (atI xs i)).bind fun d => .ok (.im d)
  | x, .im (.int i) => match x.lst with
    | some xs => (ofO (atI xs i)).bind fun d => .ok (.im d)
    | none => .no
  | _, _ => .no
theorem kg_ix : KG kIx gIx := by
  intro a b P PX h
  unfold gIx at h
  split at h
  · obtain ⟨h1, h2⟩ := gd_sat h
    obtain ⟨c, e, p⟩ := ofO_sat (Tr.sat_bind.mp h2)
    exact ⟨szOk_ok h1, c, e, p⟩
  · obtain ⟨c, e, p⟩ := ofO_sat (Tr.sat_bind.mp h)
    exact ⟨c, e, p⟩
  · rename_i i h1 h2
    split at h
    · rename_i xs ex
      obtain ⟨c, e, p⟩ := ofO_sat (Tr.sat_bind.mp h)
      cases a with
      | im d => cases d with
        | list ys => exact ⟨xs, c, ex, e, p⟩
        | _ => cases ex
      | ol ys => exact ⟨xs, c, ex, e, p⟩
      | bl ys => exact ⟨xs, c, ex, e, p⟩
      | _ => cases ex
    · exact h.elim
  · exact h.elim
def gMulS : G2 := fun x y => match x, y with
  | .im (.str s), .im (.int n) => gd (decide (0 ≤ n) && decide (n ≤ 1000) && decide (s.length ≤ 1000)) (.ok (.im (.str (repS s n))))
  | _, _ => .no
theorem kg_mulS : KG kMulS gMulS := by
  intro a b P PX h
  unfold gMulS at h
  split at h
  · obtain ⟨h1, h2⟩ := gd_sat h
    rw [Bool.and_eq_true, Bool.and_eq_true] at h1
    exact ⟨_, _, rfl, rfl, of_decide_eq_true h1.1.1, of_decide_eq_true h1.1.2, of_decide_eq_true h1.2, h2⟩
  · exact h.elim
/-- what a dict holds at a key (none: nothing is told) -/
def getO (x y : R) : Option (Option D) := match x.dK, x.dT, y with
  | some kvs, _, .im d => (DW.keyOf d).map (valD kvs)
  | none, some kvs, .im (.tuple ds) => (DW.keysOf ds).map (valD kvs)
  | _, _, _ => none
theorem getO_ok {x y : R} {o : Option D} (h : getO x y = some o) : dGet x y o := by
  unfold getO at h
  split at h
  · rename_i kvs d e1
    cases ek : DW.keyOf d with
    | none => rw [ek] at h; cases h
    | some k => rw [ek] at h; exact .inl ⟨kvs, d, k, e1, rfl, ek, (Option.some.inj h).symm⟩
  · rename_i kvs ds e0 e2
    cases ek : DW.keysOf ds with
    | none => rw [ek] at h; cases h
    | some k => rw [ek] at h; exact .inr ⟨kvs, ds, k, e2, rfl, ek, (Option.some.inj h).symm⟩
  · cases h
def gDget : G2 := fun x y => match getO x y with
  | some (some d) => .ok (.im d)
  | _ => .no
def gDin (neg : Bool) : G2 := fun x y => match getO y x with
  | some o => .ok (.im (.bool (if neg then !o.isSome else o.isSome)))
  | _ => .no
/-! ### argument lists -/
def aNil : FA := fun _ => .ok []
def aCons (f : FE) (fa : FA) : FA := fun δ => (f δ).bind fun r => (fa δ).bind fun rs => .ok (r :: rs)
def aFCons (f : FE) (fa : FA) : FA := fun δ => (f δ).bind fun r => match r.frz with
  | some r' => (fa δ).bind fun rs => .ok (r' :: rs)
  | none => .no
def fTup (fa : FA) : FE := fun δ => (fa δ).bind fun rs => match dats rs with
  | some ds => gd (szOk ds.length) (.ok (.im (.tuple ds)))
  | none => .no
def fLst (fa : FA) : FE := fun δ => (fa δ).bind fun rs => match dats rs with
  | some ds => gd (szOk ds.length) (.ok (.ol ds))
  | none => .no
abbrev G1 := List R → Tr R
def fCall (g : G1) (fa : FA) : FE := fun δ => (fa δ).bind g
def KCG (k : KC) (g : G1) : Prop := ∀ rs P PX, (g rs).sat P PX → k rs P
def gLen : G1 := fun rs => match rs with
  | [.im (.str s)] => gd (szOk s.length) (.ok (.im (.int s.length)))
  | [.im (.tuple xs)] => .ok (.im (.int xs.length))
  | [.im (.list xs)] => .ok (.im (.int xs.length))
  | [.ol xs] => .ok (.im (.int xs.length))
  | [.bl xs] => .ok (.im (.int xs.length))
  | _ => .no
theorem kcg_len : KCG kLen gLen := by
  intro rs P PX h
  unfold gLen at h
  unfold kLen
  split at h
  · obtain ⟨h1, h2⟩ := gd_sat h
    exact ⟨szOk_ok h1, h2⟩
  · exact h
  · exact h
  · exact h
  · exact h
  · exact h.elim
def gLenK : G1 := fun rs => match rs with
  | [r] => match r.dK with
    | some kvs => .ok (.im (.int (kvs.length : Nat)))
    | none => .no
  | _ => .no
def gLenT : G1 := fun rs => match rs with
  | [r] => match r.dT with
    | some kvs => .ok (.im (.int (kvs.length : Nat)))
    | none => .no
  | _ => .no
theorem kcg_lenK : KCG kLenK gLenK := by
  intro rs P PX h
  unfold gLenK at h
  split at h
  · rename_i r
    split at h
    · rename_i kvs e
      exact ⟨r, kvs, rfl, e, h⟩
    · exact h.elim
  · exact h.elim
theorem kcg_lenT : KCG kLenT gLenT := by
  intro rs P PX h
  unfold gLenT at h
  split at h
  · rename_i r
    split at h
    · rename_i kvs e
      exact ⟨r, kvs, rfl, e, h⟩
    · exact h.elim
  · exact h.elim
def gTupOf : G1 := fun rs => match rs with
  | [.im (.tuple xs)] => .ok (.im (.tuple xs))
  | [r] => match r.lst with
    | some xs => .ok (.im (.tuple xs))
    | none => .no
  | _ => .no
theorem kcg_tupOf : KCG kTupOf gTupOf := by
  intro rs P PX h
  unfold gTupOf at h
  unfold kTupOf
  split at h
  · exact h
  · rename_i r hne
    split at h
    · rename_i xs e
      first
        | exact ⟨xs, e, h⟩
        | (split
           · rename_i q; injection q with q1 _; subst q1; cases e
           · rename_i q; injection q with q1 _; subst q1; exact ⟨xs, e, h⟩
           · rename_i q; exact absurd rfl (q r))
    · exact h.elim
  · exact h.elim
def gListOf : G1 := fun rs => match rs with
  | [r] => match r.lst, r.tup with
    | some xs, _ => .ok (.ol xs)
    | none, some xs => .ok (.ol xs)
    | _, _ => .no
  | _ => .no
theorem kcg_listOf : KCG kListOf gListOf := by
  intro rs P PX h
  unfold gListOf at h
  split at h
  · rename_i r
    split at h
    · rename_i xs e1; exact ⟨r, xs, rfl, .inl e1, h⟩
    · rename_i xs e1 e2; exact ⟨r, xs, rfl, .inr e2, h⟩
    · exact h.elim
  · exact h.elim
def gAny : G1 := fun rs => match rs with
  | [r] => match r.lst with
    | some xs => (ofO (boolsOf xs)).bind fun bs => .ok (.im (.bool (bs.any id)))
    | none => .no
  | _ => .no
def gAll : G1 := fun rs => match rs with
  | [r] => match r.lst with
    | some xs => (ofO (boolsOf xs)).bind fun bs => .ok (.im (.bool (bs.all id)))
    | none => .no
  | _ => .no
theorem kcg_any : KCG kAny gAny := by
  intro rs P PX h
  unfold gAny at h
  split at h
  · rename_i r
    split at h
    · rename_i xs e
      obtain ⟨bs, eb, p⟩ := ofO_sat (Tr.sat_bind.mp h)
      exact ⟨r, bs, rfl, by rw [e, boolsOf_eq eb], p⟩
    · exact h.elim
  · exact h.elim
theorem kcg_all : KCG kAll gAll := by
  intro rs P PX h
  unfold gAll at h
  split at h
  · rename_i r
    split at h
    · rename_i xs e
      obtain ⟨bs, eb, p⟩ := ofO_sat (Tr.sat_bind.mp h)
      exact ⟨r, bs, rfl, by rw [e, boolsOf_eq eb], p⟩
    · exact h.elim
  · exact h.elim
def gMax2 : G1 := fun rs => match rs with
  | [.im (.int i), .im (.int j)] => .ok (.im (.int (if j > i then j else i)))
  | _ => .no
def gMin2 : G1 := fun rs => match rs with
  | [.im (.int i), .im (.int j)] => .ok (.im (.int (if j < i then j else i)))
  | _ => .no
theorem kcg_max2 : KCG kMax2 gMax2 := by
  intro rs P PX h
  unfold gMax2 at h
  split at h
  · exact ⟨_, _, rfl, h⟩
  · exact h.elim
theorem kcg_min2 : KCG kMin2 gMin2 := by
  intro rs P PX h
  unfold gMin2 at h
  split at h
  · exact ⟨_, _, rfl, h⟩
  · exact h.elim
def maxI : Int → List Int → Int
  | m, [] => m
  | m, x :: r => maxI (if x > m then x else m) r
def minI : Int → List Int → Int
  | m, [] => m
  | m, x :: r => minI (if x < m then x else m) r
theorem maxI_le : ∀ (l : List Int) (m : Int), m ≤ maxI m l ∧ ∀ y ∈ l, y ≤ maxI m l
  | [], m => ⟨Int.le_refl _, fun _ h => nomatch h⟩
  | x :: r, m => by
    obtain ⟨h1, h2⟩ := maxI_le r (if x > m then x else m)
    have h3 : m ≤ (if x > m then x else m) ∧ x ≤ (if x > m then x else m) := by split <;> omega
    exact ⟨Int.le_trans h3.1 h1, fun y hy => (List.mem_cons.mp hy).elim (fun e => by rw [e]; exact Int.le_trans h3.2 h1) (h2 y)⟩
theorem maxI_mem : ∀ (l : List Int) (m : Int), maxI m l = m ∨ maxI m l ∈ l
  | [], m => .inl rfl
  | x :: r, m => by
    show maxI (if x > m then x else m) r = m ∨ _
    rcases maxI_mem r (if x > m then x else m) with h | h
    · by_cases hx : x > m
      · rw [if_pos hx] at h
        exact .inr (by show maxI (if x > m then x else m) r ∈ _; rw [if_pos hx, h]; exact List.mem_cons_self)
      · rw [if_neg hx] at h ⊢
        exact .inl h
    · exact .inr (List.mem_cons_of_mem _ h)
theorem minI_le : ∀ (l : List Int) (m : Int), minI m l ≤ m ∧ ∀ y ∈ l, minI m l ≤ y
  | [], m => ⟨Int.le_refl _, fun _ h => nomatch h⟩
  | x :: r, m => by
    obtain ⟨h1, h2⟩ := minI_le r (if x < m then x else m)
    have h3 : (if x < m then x else m) ≤ m ∧ (if x < m then x else m) ≤ x := by split <;> omega
    exact ⟨Int.le_trans h1 h3.1, fun y hy => (List.mem_cons.mp hy).elim (fun e => by rw [e]; exact Int.le_trans h1 h3.2) (h2 y)⟩
theorem minI_mem : ∀ (l : List Int) (m : Int), minI m l = m ∨ minI m l ∈ l
  | [], m => .inl rfl
  | x :: r, m => by
    show minI (if x < m then x else m) r = m ∨ _
    rcases minI_mem r (if x < m then x else m) with h | h
    · by_cases hx : x < m
      · rw [if_pos hx] at h
        exact .inr (by show minI (if x < m then x else m) r ∈ _; rw [if_pos hx, h]; exact List.mem_cons_self)
      · rw [if_neg hx] at h ⊢
        exact .inl h
    · exact .inr (List.mem_cons_of_mem _ h)
def gMaxL : G1 := fun rs => match rs with
  | [r] => match r.lst with
    | some xs => (ofO (intsOf xs)).bind fun ns => match ns with
      | [] => .no
      | n :: r => .ok (.im (.int (maxI n r)))
    | none => .no
  | _ => .no
def gMinL : G1 := fun rs => match rs with
  | [r] => match r.lst with
    | some xs => (ofO (intsOf xs)).bind fun ns => match ns with
      | [] => .no
      | n :: r => .ok (.im (.int (minI n r)))
    | none => .no
  | _ => .no
theorem kcg_maxL : KCG kMaxL gMaxL := by
  intro rs P PX h
  unfold gMaxL at h
  split at h
  · rename_i r
    split at h
    · rename_i xs e
      obtain ⟨ns, eb, p⟩ := ofO_sat (Tr.sat_bind.mp h)
      cases ns with
      | nil => exact p.elim
      | cons n t =>
        refine ⟨r, n :: t, rfl, by rw [e, intsOf_eq eb], by simp, fun m hm hu => ?_⟩
        have e1 : m = maxI n t := by
          have a1 := maxI_le t n
          have a2 := maxI_mem t n
          have a3 : maxI n t ∈ n :: t := a2.elim (fun z => by rw [z]; exact List.mem_cons_self) (List.mem_cons_of_mem _)
          have a4 := hu _ a3
          have a5 : m ≤ maxI n t := (List.mem_cons.mp hm).elim (fun z => by rw [z]; exact a1.1) (a1.2 m)
          omega
        rw [e1]; exact p
    · exact h.elim
  · exact h.elim
theorem kcg_minL : KCG kMinL gMinL := by
  intro rs P PX h
  unfold gMinL at h
  split at h
  · rename_i r
    split at h
    · rename_i xs e
      obtain ⟨ns, eb, p⟩ := ofO_sat (Tr.sat_bind.mp h)
      cases ns with
      | nil => exact p.elim
      | cons n t =>
        refine ⟨r, n :: t, rfl, by rw [e, intsOf_eq eb], by simp, fun m hm hu => ?_⟩
        have e1 : m = minI n t := by
          have a1 := minI_le t n
          have a2 := minI_mem t n
          have a3 : minI n t ∈ n :: t := a2.elim (fun z => by rw [z]; exact List.mem_cons_self) (List.mem_cons_of_mem _)
          have a4 := hu _ a3
          have a5 : minI n t ≤ m := (List.mem_cons.mp hm).elim (fun z => by rw [z]; exact a1.1) (a1.2 m)
          omega
        rw [e1]; exact p
    · exact h.elim
  · exact h.elim
def gSum : G1 := fun rs => match rs with
  | [r] => match r.lst with
    | some xs => (ofO (intsOf xs)).bind fun ns => .ok (.im (.int ns.sum))
    | none => .no
  | _ => .no
theorem kcg_sum : KCG kSum gSum := by
  intro rs P PX h
  unfold gSum at h
  split at h
  · rename_i r
    split at h
    · rename_i xs e
      obtain ⟨ns, eb, p⟩ := ofO_sat (Tr.sat_bind.mp h)
      exact ⟨r, ns, rfl, by rw [e, intsOf_eq eb], p⟩
    · exact h.elim
  · exact h.elim
def gAbs : G1 := fun rs => match rs with
  | [.im (.int i)] => .ok (.im (.int (if i < 0 then -i else i)))
  | _ => .no
theorem kcg_abs : KCG kAbs gAbs := by
  intro rs P PX h
  unfold gAbs at h
  split at h
  · exact ⟨_, rfl, h⟩
  · exact h.elim
/-! ### methods -/
abbrev GM := R → List R → Tr R
def fMt (g : GM) (fo : FE) (fa : FA) : FE := fun δ => (fo δ).bind fun r => (fa δ).bind fun rs => g r rs
def gSIndex : GM := fun r rs => match r, rs with
  | .im (.str a), [.im (.str b)] => match Builtin.Str.occurrences a b 0 a.length 1 with
    | i :: _ => .ok (.im (.int (i : Nat)))
    | [] => .no
  | _, _ => .no
def gJoin : GM := fun r rs => match r, rs with
  | .im (.str a), [r] => match r.lst with
    | some xs => (ofO (strsOf xs)).bind fun ys => gd (szOk ((ys.map (·.length)).sum + ys.length * a.length)) (.ok (.im (.str (Txt.join a ys))))
    | none => .no
  | _, _ => .no
def findD (d : D) : List D → Nat → Option Nat
  | [], _ => none
  | z :: r, i => if PyData.eqv z d then some i else findD d r (i + 1)
def gLIndex : GM := fun r rs => match r.lst, rs with
  | some ds, [r] => match r.datA with
    | some d => gd (shp (.list ds) && shp d) ((ofO (findD d ds 0)).bind fun j => .ok (.im (.int (j : Nat))))
    | none => .no
  | _, _ => .no
theorem findD_ok {d : D} : ∀ {l : List D} {i j : Nat}, findD d l i = some j → i ≤ j ∧ (∃ z, l[j - i]? = some z ∧ PyData.eqv z d = true) ∧ ∀ m z', m < j - i → l[m]? = some z' → PyData.eqv z' d = false
  | [], _, _, h => by cases h
  | z :: r, i, j, h => by
    unfold findD at h
    by_cases e : PyData.eqv z d = true
    · rw [if_pos e] at h
      cases h
      refine ⟨Nat.le_refl _, ⟨z, by rw [Nat.sub_self]; rfl, e⟩, fun m z' hm => by omega⟩
    · rw [if_neg e] at h
      obtain ⟨h1, ⟨z1, h2, h3⟩, h4⟩ := findD_ok h
      refine ⟨by omega, ⟨z1, ?_, h3⟩, fun m z' hm hz => ?_⟩
      · rw [show j - i = (j - (i + 1)) + 1 by omega]; exact h2
      · cases m with
        | zero => cases hz; exact Bool.eq_false_iff.mpr e
        | succ m => exact h4 m z' (by omega) (by simpa using hz)
end FW
set_option Elab.async false
set_option linter.all false
set_option maxRecDepth 100000
set_option maxHeartbeats 4000000
namespace FW
open PySem PySem.Spec L2 DW
/-! ### the first place of a sign -/
theorem occ_stay (s sub : Str) (hi : Nat) : ∀ (l : List Nat) (st : Array Nat × Nat), 1 ≤ st.fst.size → (forIn (m := Id) l st (StrLaws.occBody s sub hi 1)).run.fst = st.fst
  | [], st, _ => rfl
  | a :: l, st, h => by
    rw [List.forIn_cons]
    have c : ¬ (((st.fst.size < 1 ∧ st.snd ≤ a) ∧ a + sub.length ≤ hi) ∧ Builtin.Str.subAt s sub a = true) := fun z => by omega
    unfold StrLaws.occBody
    rw [if_neg c]
    exact occ_stay s sub hi l _ h
theorem occ_go (x : Str) (c : Nat) : ∀ (n k free : Nat), free ≤ k → (∃ i, i < n ∧ x.cps.toList[k + i]? = some c) → (∀ i, i < k → x.cps.toList[i]? ≠ some c) →
    (forIn (m := Id) (List.range' k n) ((#[] : Array Nat), free) (StrLaws.occBody x ⟨#[c]⟩ x.length 1)).run.fst = #[x.cps.toList.idxOf c]
  | 0, k, free, _, ⟨i, h, _⟩, _ => by omega
  | n + 1, k, free, hf, ⟨i, hi, he⟩, hno => by
    rw [List.range'_succ, List.forIn_cons]
    by_cases hk : x.cps.toList[k]? = some c
    · have c1 := (StrLaws.subAt_one x c k).mpr hk
      have c2 : ((((#[] : Array Nat), free).fst.size < 1 ∧ ((#[] : Array Nat), free).snd ≤ k) ∧ k + (⟨#[c]⟩ : Str).length ≤ x.length) ∧ Builtin.Str.subAt x ⟨#[c]⟩ k = true := ⟨⟨⟨by simp, hf⟩, c1.1⟩, c1.2⟩
      unfold StrLaws.occBody
      rw [if_pos c2]
      have e := occ_stay x ⟨#[c]⟩ x.length (List.range' (k + 1) n) ((#[] : Array Nat).push k, k + (⟨#[c]⟩ : Str).length) (by simp)
      unfold StrLaws.occBody at e
      refine e.trans ?_
      have hidx : x.cps.toList.idxOf c = k := by
        obtain ⟨hlt, hke⟩ := List.getElem?_eq_some_iff.mp hk
        have hm : c ∈ x.cps.toList := by rw [← hke]; exact List.getElem_mem hlt
        have h1 : x.cps.toList.idxOf c ≤ k := by
          by_cases hh : x.cps.toList.idxOf c ≤ k
          · exact hh
          · have := List.not_of_lt_findIdx (p := (· == c)) (xs := x.cps.toList) (i := k) (by unfold List.idxOf at hh; omega)
            rw [hke] at this
            simp at this
        have h2 := List.idxOf_lt_length_of_mem hm
        by_cases hh : x.cps.toList.idxOf c = k
        · exact hh
        · have := hno (x.cps.toList.idxOf c) (by omega)
          exact absurd (by rw [List.getElem?_eq_getElem h2, List.getElem_idxOf]) this
      show (#[].push k : Array Nat) = _
      rw [hidx]; rfl
    · have c2 : ¬ (((((#[] : Array Nat), free).fst.size < 1 ∧ ((#[] : Array Nat), free).snd ≤ k) ∧ k + (⟨#[c]⟩ : Str).length ≤ x.length) ∧ Builtin.Str.subAt x ⟨#[c]⟩ k = true) := fun z => hk ((StrLaws.subAt_one x c k).mp ⟨z.1.2, z.2⟩)
      unfold StrLaws.occBody
      rw [if_neg c2]
      have e := occ_go x c n (k + 1) free (by omega) ?_ ?_
      · unfold StrLaws.occBody at e
        exact e
      · refine ⟨i - 1, ?_, ?_⟩
        · have : i ≠ 0 := fun z => hk (by rw [z] at he; exact he)
          omega
        · have : i ≠ 0 := fun z => hk (by rw [z] at he; exact he)
          rw [show k + 1 + (i - 1) = k + i by omega]; exact he
      · intro j hj
        by_cases e : j = k
        · rw [e]; exact hk
        · exact hno j (by omega)
theorem occ_sign (x : Str) (c : Nat) (h : c ∈ x.cps.toList) : Builtin.Str.occurrences x ⟨#[c]⟩ 0 x.length 1 = [x.cps.toList.idxOf c] := by
  rw [StrLaws.occ_eq]
  have hl := List.idxOf_lt_length_of_mem h
  have hz : x.cps.toList.length = x.length := Array.length_toList
  rw [occ_go x c _ 0 0 (Nat.le_refl _) ⟨x.cps.toList.idxOf c, by omega, by rw [Nat.zero_add, List.getElem?_eq_getElem hl, List.getElem_idxOf]⟩ (fun i hi => by omega)]
def idx1 (c : Nat) : List Nat → Nat → Option Nat
  | [], _ => none
  | x :: r, i => if x = c then some i else idx1 c r (i + 1)
theorem idx1_eq (c : Nat) : ∀ (l : List Nat) (i : Nat), idx1 c l i = if c ∈ l then some (i + l.idxOf c) else none
  | [], i => rfl
  | x :: r, i => by
    unfold idx1
    by_cases h : x = c
    · subst h; simp
    · rw [if_neg h, idx1_eq c r (i + 1)]
      have h2 : ¬ c = x := fun z => h z.symm
      by_cases hm : c ∈ r
      · rw [if_pos hm, if_pos (List.mem_cons_of_mem _ hm)]; have hb : (x == c) = false := by simpa using h
        rw [List.idxOf_cons, hb]; simp; omega
      · rw [if_neg hm, if_neg (by simp [h2, hm])]
/-- text.index(sign) -/
def gSIdx : GM := fun r rs => match r, rs with
  | .im (.str a), [.im (.str b)] => (ofO (sign1 b)).bind fun c => (ofO (idx1 c a.cps.toList 0)).bind fun i => .ok (.im (.int (i : Nat)))
  | _, _ => .no
section
variable {X : Cx} {G : Gd} {W : WX} {st : Bool} {tg e a b c o kx vx : Expr} {es rest : List Expr} {fe fa fb fc fo : FE} {ft fu : FT} {faa : FA} {fi : FI} {pos p np : Pos} {ts us : List Nat}
abbrev E_ (X : Cx) (G : Gd) (W : WX) (e : Expr) (f : FE) : Prop := DE X G W e (wE X.K f)
abbrev T_ (X : Cx) (G : Gd) (W : WX) (e : Expr) (f : FT) : Prop := DT X G W e (wT X.K f)
abbrev TW_ (X : Cx) (G : Gd) (W : WX) (e : Expr) (f : FT) : Prop := DW_ X G W e (wT X.K f)
abbrev A_ (X : Cx) (G : Gd) (W : WX) (es : List Expr) (f : FA) : Prop := DA X G W es (wA X.K f)
abbrev I_ (X : Cx) (G : Gd) (W : WX) (st : Bool) (tg e : Expr) (f : FI) : Prop := DI X G W st tg e (wI X.K f)
theorem e_var {i : Nat} (h : PE X e (tVar i)) : E_ X G W e (fV i) := DE.imp (de_var h) fun δ P PX q => by
  unfold wE fV at q
  cases h : slotD δ i with
  | none => rw [h] at q; exact q.elim
  | some s => rw [h] at q; exact ⟨s, slotD_eq h, q⟩
theorem e_con {d : D} (h : DE X G W e (wC d)) : E_ X G W e (fC d) := DE.imp h fun δ P PX q => q
theorem e_op {k : KO} {g : G2} (h : DE X G W e (wOp k (wE X.K fa) (wE X.K fb))) (hk : KG k g) : E_ X G W e (fOp g fa fb) := DE.imp h fun δ P PX q =>
  Tr.sat_of (Tr.sat_bind.mp q) fun x qx => Tr.sat_of (Tr.sat_bind.mp qx) fun y qy => hk _ _ _ _ qy
/-- a test of a value -/
def tB (f : FE) : FT := fun δ => (f δ).bind fun r => match r with
  | .im (.bool b) => .ok b
  | _ => .no
theorem t_B (h : DT X G W e (wB (wE X.K fa))) : T_ X G W e (tB fa) := DT.imp h fun δ P PX q => Tr.sat_of (Tr.sat_bind.mp q) fun r qr => by
  split at qr
  · exact ⟨_, rfl, qr⟩
  · exact qr.elim
theorem t_op {k : KO} {g : G2} (h : DT X G W e (wB (wOp k (wE X.K fa) (wE X.K fb)))) (hk : KG k g) : T_ X G W e (tB (fOp g fa fb)) := DT.imp h fun δ P PX q =>
  Tr.sat_of (Tr.sat_bind.mp (Tr.sat_bind.mp q)) fun x qx => Tr.sat_of (Tr.sat_bind.mp qx) fun y qy => hk _ _ _ _ (Tr.sat_of qy fun r qr => by
    split at qr
    · exact ⟨_, rfl, qr⟩
    · exact qr.elim)
theorem e_add (ha : E_ X G W a fa) (hb : E_ X G W b fb) : E_ X G W (.BinOp a .Add b pos) (fOp gAdd fa fb) := e_op (de_add ha hb) kg_add
theorem e_sub (ha : E_ X G W a fa) (hb : E_ X G W b fb) : E_ X G W (.BinOp a .Sub b pos) (fOp gSub fa fb) := e_op (de_sub ha hb) kg_I
theorem e_mod (ha : E_ X G W a fa) (hb : E_ X G W b fb) : E_ X G W (.BinOp a .Mod b pos) (fOp gMod fa fb) := e_op (de_mod ha hb) (kg_IC fun _ _ h => of_decide_eq_true h)
theorem e_mulS (ha : E_ X G W a fa) (hb : E_ X G W b fb) : E_ X G W (.BinOp a .Mult b pos) (fOp gMulS fa fb) := e_op (de_mulS ha hb) kg_mulS
theorem e_fdiv (ha : E_ X G W a fa) (hb : E_ X G W b fb) : E_ X G W (.BinOp a .FloorDiv b pos) (fOp gDiv fa fb) := e_op (de_fdiv ha hb) (kg_IC fun i j h => by
  unfold divOk at h
  rw [Bool.and_eq_true] at h
  have h1 := of_decide_eq_true h.1
  have h2 := of_decide_eq_true h.2
  first | exact ⟨h1, h2⟩ | (unfold CDiv; omega) | exact ⟨by omega, by omega⟩)
theorem e_mul (ha : E_ X G W a fa) (hb : E_ X G W b fb) : E_ X G W (.BinOp a .Mult b pos) (fOp gMul fa fb) := e_op (de_mul ha hb) (kg_IC fun i j h => by
  unfold mulOk at h
  simp only [Bool.or_eq_true, Bool.and_eq_true, decide_eq_true_eq] at h
  unfold CMul
  omega)
theorem e_lt (ha : E_ X G W a fa) (hb : E_ X G W b fb) : E_ X G W (.Compare a [.Lt] [b] pos) (fOp gLt fa fb) := e_op (de_lt ha hb) kg_I
theorem e_le (ha : E_ X G W a fa) (hb : E_ X G W b fb) : E_ X G W (.Compare a [.LtE] [b] pos) (fOp gLe fa fb) := e_op (de_le ha hb) kg_I
theorem e_gt (ha : E_ X G W a fa) (hb : E_ X G W b fb) : E_ X G W (.Compare a [.Gt] [b] pos) (fOp gGt fa fb) := e_op (de_gt ha hb) kg_I
theorem e_ge (ha : E_ X G W a fa) (hb : E_ X G W b fb) : E_ X G W (.Compare a [.GtE] [b] pos) (fOp gGe fa fb) := e_op (de_ge ha hb) kg_I
theorem t_lt (ha : E_ X G W a fa) (hb : E_ X G W b fb) : T_ X G W (.Compare a [.Lt] [b] pos) (tB (fOp gLt fa fb)) := t_op (dt_lt ha hb) kg_I
theorem t_le (ha : E_ X G W a fa) (hb : E_ X G W b fb) : T_ X G W (.Compare a [.LtE] [b] pos) (tB (fOp gLe fa fb)) := t_op (dt_le ha hb) kg_I
theorem t_gt (ha : E_ X G W a fa) (hb : E_ X G W b fb) : T_ X G W (.Compare a [.Gt] [b] pos) (tB (fOp gGt fa fb)) := t_op (dt_gt ha hb) kg_I
theorem t_ge (ha : E_ X G W a fa) (hb : E_ X G W b fb) : T_ X G W (.Compare a [.GtE] [b] pos) (tB (fOp gGe fa fb)) := t_op (dt_ge ha hb) kg_I
theorem e_eq (hu : X.A.units + 64 < cLine) (ha : E_ X G W a fa) (hb : E_ X G W b fb) : E_ X G W (.Compare a [.Eq] [b] pos) (fOp gEq fa fb) := e_op (de_eq hu ha hb) kg_eq
theorem e_ne (hu : X.A.units + 64 < cLine) (ha : E_ X G W a fa) (hb : E_ X G W b fb) : E_ X G W (.Compare a [.NotEq] [b] pos) (fOp gNe fa fb) := e_op (de_ne hu ha hb) kg_ne
theorem t_eq (hu : X.A.units + 64 < cLine) (ha : E_ X G W a fa) (hb : E_ X G W b fb) : T_ X G W (.Compare a [.Eq] [b] pos) (tB (fOp gEq fa fb)) := t_op (dt_eq hu ha hb) kg_eq
theorem t_ne (hu : X.A.units + 64 < cLine) (ha : E_ X G W a fa) (hb : E_ X G W b fb) : T_ X G W (.Compare a [.NotEq] [b] pos) (tB (fOp gNe fa fb)) := t_op (dt_ne hu ha hb) kg_ne
theorem e_isN (ha : E_ X G W a fa) (hb : E_ X G W b fb) : E_ X G W (.Compare a [.Is] [b] pos) (fOp (gIsN false) fa fb) := e_op (de_isN ha hb) kg_isN
theorem e_notN (ha : E_ X G W a fa) (hb : E_ X G W b fb) : E_ X G W (.Compare a [.IsNot] [b] pos) (fOp (gIsN true) fa fb) := e_op (de_notN ha hb) kg_notN
theorem t_isN (ha : E_ X G W a fa) (hb : E_ X G W b fb) : T_ X G W (.Compare a [.Is] [b] pos) (tB (fOp (gIsN false) fa fb)) := t_op (dt_isN ha hb) kg_isN
theorem t_notN (ha : E_ X G W a fa) (hb : E_ X G W b fb) : T_ X G W (.Compare a [.IsNot] [b] pos) (tB (fOp (gIsN true) fa fb)) := t_op (dt_notN ha hb) kg_notN
theorem e_inL (hu : X.A.units + 65 < cLine) (ha : E_ X G W a fa) (hb : E_ X G W b fb) (hm : behindInMarks .In b = false := by rfl) : E_ X G W (.Compare a [.In] [b] pos) (fOp (gInL false) fa fb) := e_op (de_inL hu ha hb hm) kg_inL
theorem e_notInL (hu : X.A.units + 65 < cLine) (ha : E_ X G W a fa) (hb : E_ X G W b fb) (hm : behindInMarks .NotIn b = false := by rfl) : E_ X G W (.Compare a [.NotIn] [b] pos) (fOp (gInL true) fa fb) := e_op (de_notInL hu ha hb hm) kg_inL
theorem t_inL (hu : X.A.units + 65 < cLine) (ha : E_ X G W a fa) (hb : E_ X G W b fb) (hm : behindInMarks .In b = false := by rfl) : T_ X G W (.Compare a [.In] [b] pos) (tB (fOp (gInL false) fa fb)) := t_op (dt_inL hu ha hb hm) kg_inL
theorem t_notInL (hu : X.A.units + 65 < cLine) (ha : E_ X G W a fa) (hb : E_ X G W b fb) (hm : behindInMarks .NotIn b = false := by rfl) : T_ X G W (.Compare a [.NotIn] [b] pos) (tB (fOp (gInL true) fa fb)) := t_op (dt_notInL hu ha hb hm) kg_inL
theorem e_inT (ha : E_ X G W a fa) (hb : E_ X G W b fb) (hm : behindInMarks .In b = false := by rfl) : E_ X G W (.Compare a [.In] [b] pos) (fOp (gInT false) fa fb) := e_op (de_inT ha hb hm) kg_inT
theorem e_notInT (ha : E_ X G W a fa) (hb : E_ X G W b fb) (hm : behindInMarks .NotIn b = false := by rfl) : E_ X G W (.Compare a [.NotIn] [b] pos) (fOp (gInT true) fa fb) := e_op (de_notInT ha hb hm) kg_inT
theorem t_inT (ha : E_ X G W a fa) (hb : E_ X G W b fb) (hm : behindInMarks .In b = false := by rfl) : T_ X G W (.Compare a [.In] [b] pos) (tB (fOp (gInT false) fa fb)) := t_op (dt_inT ha hb hm) kg_inT
theorem t_notInT (ha : E_ X G W a fa) (hb : E_ X G W b fb) (hm : behindInMarks .NotIn b = false := by rfl) : T_ X G W (.Compare a [.NotIn] [b] pos) (tB (fOp (gInT true) fa fb)) := t_op (dt_notInT ha hb hm) kg_inT
theorem e_inS (ha : E_ X G W a fa) (hb : E_ X G W b fb) (hm : behindInMarks .In b = false := by rfl) : E_ X G W (.Compare a [.In] [b] pos) (fOp (gInS false) fa fb) := e_op (de_inS ha hb hm) kg_inS
theorem t_inS (ha : E_ X G W a fa) (hb : E_ X G W b fb) (hm : behindInMarks .In b = false := by rfl) : T_ X G W (.Compare a [.In] [b] pos) (tB (fOp (gInS false) fa fb)) := t_op (dt_inS ha hb hm) kg_inS
theorem e_ix (ha : E_ X G W a fa) (hb : E_ X G W b fb) (hs : PlainIx b := by exact fun _ _ => rfl) : E_ X G W (.Subscript a b pos) (fOp gIx fa fb) := e_op (de_ix ha hb hs) kg_ix
theorem e_dget (hu : X.A.units + 1 < cLine) (ha : E_ X G W a fa) (hb : E_ X G W b fb) (hs : NoSl b := by exact fun _ _ => rfl) : E_ X G W (.Subscript a b pos) (fOp gDget fa fb) := DE.imp (de_dget hu ha hb hs) fun δ P PX q =>
  Tr.sat_of (Tr.sat_bind.mp q) fun x qx => Tr.sat_of (Tr.sat_bind.mp qx) fun y qy => by
    unfold gDget at qy
    split at qy
    · rename_i d e1; exact ⟨d, getO_ok e1, qy⟩
    · exact qy.elim
theorem din_ok {neg : Bool} {x y : R} {P : R → Prop} {PX : Xn → Prop} (h : (gDin neg x y).sat P PX) : ∃ o, dGet y x o ∧ P (.im (.bool (if neg then !o.isSome else o.isSome))) := by
  unfold gDin at h
  split at h
  · rename_i o e; exact ⟨o, getO_ok e, h⟩
  · exact h.elim
theorem e_din (hu : X.A.units + 1 < cLine) (ha : E_ X G W a fa) (hb : E_ X G W b fb) (hm : behindInMarks .In b = false := by rfl) : E_ X G W (.Compare a [.In] [b] pos) (fOp (gDin false) fa fb) := DE.imp (de_din hu ha hb hm) fun δ P PX q =>
  Tr.sat_of (Tr.sat_bind.mp q) fun x qx => Tr.sat_of (Tr.sat_bind.mp qx) fun y qy => din_ok qy
theorem e_dnotin (hu : X.A.units + 1 < cLine) (ha : E_ X G W a fa) (hb : E_ X G W b fb) (hm : behindInMarks .NotIn b = false := by rfl) : E_ X G W (.Compare a [.NotIn] [b] pos) (fOp (gDin true) fa fb) := DE.imp (de_dnotin hu ha hb hm) fun δ P PX q =>
  Tr.sat_of (Tr.sat_bind.mp q) fun x qx => Tr.sat_of (Tr.sat_bind.mp qx) fun y qy => din_ok qy
theorem tdin_ok {neg : Bool} {x y : R} {P : Bool → Prop} {PX : Xn → Prop} (h : (gDin neg x y).sat (fun r => (match r with | .im (.bool b) => Tr.ok b | _ => .no).sat P PX) PX) : ∃ o, dGet y x o ∧ ∃ b, (R.im (.bool (if neg then !o.isSome else o.isSome))) = .im (.bool b) ∧ P b := by
  obtain ⟨o, h1, h2⟩ := din_ok h
  exact ⟨o, h1, _, rfl, h2⟩
theorem t_din (hu : X.A.units + 1 < cLine) (ha : E_ X G W a fa) (hb : E_ X G W b fb) (hm : behindInMarks .In b = false := by rfl) : T_ X G W (.Compare a [.In] [b] pos) (tB (fOp (gDin false) fa fb)) := DT.imp (dt_din hu ha hb hm) fun δ P PX q =>
  Tr.sat_of (Tr.sat_bind.mp (Tr.sat_bind.mp q)) fun x qx => Tr.sat_of (Tr.sat_bind.mp qx) fun y qy => tdin_ok qy
theorem t_dnotin (hu : X.A.units + 1 < cLine) (ha : E_ X G W a fa) (hb : E_ X G W b fb) (hm : behindInMarks .NotIn b = false := by rfl) : T_ X G W (.Compare a [.NotIn] [b] pos) (tB (fOp (gDin true) fa fb)) := DT.imp (dt_dnotin hu ha hb hm) fun δ P PX q =>
  Tr.sat_of (Tr.sat_bind.mp (Tr.sat_bind.mp q)) fun x qx => Tr.sat_of (Tr.sat_bind.mp qx) fun y qy => tdin_ok qy
/-! ### argument lists, displays, calls -/
theorem a_nil : A_ X G W [] aNil := DA.imp da_nil fun δ P PX q => q
theorem a_cons (he : E_ X G W e fe) (ha : A_ X G W es faa) (hs : starEach (e :: es) X.env = (false, eval e X.env) :: starEach es X.env := by rfl) : A_ X G W (e :: es) (aCons fe faa) := DA.imp (da_cons he ha hs) fun δ P PX q =>
  Tr.sat_of (Tr.sat_bind.mp q) fun r qr => Tr.sat_bind.mp qr
theorem a_fcons (he : E_ X G W e fe) (ha : A_ X G W es faa) (hs : starEach (e :: es) X.env = (false, eval e X.env) :: starEach es X.env := by rfl) : A_ X G W (e :: es) (aFCons fe faa) := DA.imp (da_fcons he ha hs) fun δ P PX q =>
  Tr.sat_of (Tr.sat_bind.mp q) fun r qr => by
    split at qr
    · rename_i r' e; exact ⟨r', e, Tr.sat_bind.mp qr⟩
    · exact qr.elim
theorem e_tup {k : Nat} (h : A_ X G W es faa) : E_ X G W (.Tuple es k pos) (fTup faa) := DE.imp (de_tup h) fun δ P PX q =>
  Tr.sat_of (Tr.sat_bind.mp q) fun r qr => by
    split at qr
    · rename_i ds e; obtain ⟨h1, h2⟩ := gd_sat qr; exact ⟨ds, e, szOk_ok h1, h2⟩
    · exact qr.elim
theorem e_lst (h : A_ X G W es faa) : E_ X G W (.List es pos) (fLst faa) := DE.imp (de_lst h) fun δ P PX q =>
  Tr.sat_of (Tr.sat_bind.mp q) fun r qr => by
    split at qr
    · rename_i ds e; obtain ⟨h1, h2⟩ := gd_sat qr; exact ⟨ds, e, szOk_ok h1, h2⟩
    · exact qr.elim
theorem e_callB {r : List V → Hp → VK → Prop} {k : KC} {g : G1} (h : PE X e (tCB r (dTA X.K G W (wA X.K faa)))) (hk : CallD X.K r k) (hg : KCG k g) : E_ X G W e (fCall g faa) := DE.imp (de_callB h hk) fun δ P PX q =>
  Tr.sat_of (Tr.sat_bind.mp q) fun rs qr => hg _ _ _ qr
/-- tuple(range(n)) -/
def fTupR1 (fa : FE) : FE := fun δ => (fa δ).bind fun r => match r with
  | .im (.int n) => gd (decide (0 ≤ n) && decide (n ≤ 16777216)) (.ok (.im (.tuple (intsD 0 n.toNat))))
  | _ => .no
theorem e_tupR1 {apos cpos : Pos} (hc : X.calm = true) (hg : Gl X "tuple") (hm : X.mg "tuple" = none) (hg2 : Gl X "range") (hm2 : X.mg "range" = none) (ha : E_ X G W a fa) (na : starEach [a] X.env = (false, eval a X.env) :: starEach [] X.env := by rfl)
    (nb : starEach [.Call (.Name "range" apos) [a] [] cpos] X.env = (false, eval (.Call (.Name "range" apos) [a] [] cpos) X.env) :: starEach [] X.env := by rfl) : E_ X G W (.Call (.Name "tuple" p) [.Call (.Name "range" apos) [a] [] cpos] [] pos) (fTupR1 fa) :=
  DE.imp (de_tupR1 hc hg hm hg2 hm2 ha na nb) fun δ P PX q => Tr.sat_of (Tr.sat_bind.mp q) fun r qr => by
    split at qr
    · obtain ⟨h1, h2⟩ := gd_sat qr
      rw [Bool.and_eq_true] at h1
      exact ⟨_, rfl, of_decide_eq_true h1.1, of_decide_eq_true h1.2, h2⟩
    · exact qr.elim
/-! ### methods -/
def KMG (ok : R → Prop) (k : R → KC) (g : GM) : Prop := ∀ r rs P PX, (g r rs).sat P PX → ok r ∧ k r rs P
theorem e_mt {T : String} {r : V → List V → Hp → VK → Prop} {ok : R → Prop} {k : R → KC} {g : GM} (h : PE X e (tBM X.K T r (dT X.K G W (wE X.K fo)) (dTA X.K G W (wA X.K faa)))) (hk : MtD X.K T r ok k) (hok : ∀ r0 rs P PX, (g r0 rs).sat P PX → k r0 rs P) (hr : ∀ r0 rs P PX, (g r0 rs).sat P PX → ok r0)
    (okF : ∀ δ P PX, (fo δ).sat (fun r0 => (faa δ).sat (fun rs => (g r0 rs).sat P PX) PX) PX → (fo δ).sat (fun r0 => ok r0 ∧ (faa δ).sat (fun rs => (g r0 rs).sat P PX) PX) PX) : E_ X G W e (fMt g fo faa) := DE.imp (de_mt h hk) fun δ P PX q => by
  have q1 := Tr.sat_of (Tr.sat_bind.mp q) fun r qr => Tr.sat_bind.mp qr
  have q2 := okF δ P _ q1
  exact Tr.sat_of q2 fun r ⟨h1, h2⟩ => ⟨h1, Tr.sat_of h2 fun rs qr => hok _ _ _ _ qr⟩
/-- a method whose receiver is looked at first -/
def fMtK (okB : R → Bool) (g : GM) (fo : FE) (fa : FA) : FE := fun δ => (fo δ).bind fun r => gd (okB r) ((fa δ).bind fun rs => g r rs)
theorem e_mtK {T : String} {r : V → List V → Hp → VK → Prop} {ok : R → Prop} {k : R → KC} {okB : R → Bool} {g : GM} (h : PE X e (tBM X.K T r (dT X.K G W (wE X.K fo)) (dTA X.K G W (wA X.K faa)))) (hk : MtD X.K T r ok k) (hok : ∀ r0, okB r0 = true → ok r0) (hg : ∀ r0 rs P PX, (g r0 rs).sat P PX → k r0 rs P) : E_ X G W e (fMtK okB g fo faa) := DE.imp (de_mt h hk) fun δ P PX q =>
  Tr.sat_of (Tr.sat_bind.mp q) fun r qr => by
    obtain ⟨h1, h2⟩ := gd_sat qr
    exact ⟨hok _ h1, Tr.sat_of (Tr.sat_bind.mp h2) fun rs qr => hg _ _ _ _ qr⟩
def isSB : R → Bool
  | .im (.str _) => true
  | _ => false
def isLB (r : R) : Bool := r.lst.isSome
theorem isSB_ok (r : R) (h : isSB r = true) : isS r := by
  unfold isSB at h
  split at h
  · exact ⟨_, rfl⟩
  · cases h
theorem isLB_ok (r : R) (h : isLB r = true) : isL r := by
  unfold isLB at h
  cases e : r.lst with
  | none => rw [e] at h; cases h
  | some xs => exact ⟨xs, e⟩
theorem kmg_sindex (r0 : R) (rs : List R) (P : R → Prop) (PX : Xn → Prop) (h : (gSIdx r0 rs).sat P PX) : kSIndex r0 rs P := by
  unfold gSIdx at h
  split at h
  · rename_i a b
    obtain ⟨c, e, p⟩ := ofO_sat (Tr.sat_bind.mp h)
    obtain ⟨i, e2, p2⟩ := ofO_sat (Tr.sat_bind.mp p)
    obtain rfl := sign1_eq e
    rw [idx1_eq] at e2
    split at e2
    · rename_i hm
      cases e2
      refine ⟨a, _, _, [], rfl, rfl, occ_sign a c hm, ?_⟩
      rw [Nat.zero_add] at p2
      exact p2
    · cases e2
  · exact h.elim
theorem kmg_join (r0 : R) (rs : List R) (P : R → Prop) (PX : Xn → Prop) (h : (gJoin r0 rs).sat P PX) : kJoin r0 rs P := by
  unfold gJoin at h
  split at h
  · rename_i a r
    split at h
    · rename_i xs e
      obtain ⟨ys, e2, p⟩ := ofO_sat (Tr.sat_bind.mp h)
      obtain ⟨h1, h2⟩ := gd_sat p
      exact ⟨a, r, ys, rfl, rfl, by rw [e, strsOf_eq e2], of_decide_eq_true h1, h2⟩
    · exact h.elim
  · exact h.elim
theorem kmg_lindex (r0 : R) (rs : List R) (P : R → Prop) (PX : Xn → Prop) (h : (gLIndex r0 rs).sat P PX) : kLIndex r0 rs P := by
  unfold gLIndex at h
  split at h
  · rename_i ds r e
    split at h
    · rename_i d ed
      obtain ⟨h1, h2⟩ := gd_sat h
      obtain ⟨j, e2, p⟩ := ofO_sat (Tr.sat_bind.mp h2)
      rw [Bool.and_eq_true] at h1
      obtain ⟨a1, ⟨z, a2, a3⟩, a4⟩ := findD_ok e2
      exact ⟨ds, r, d, j, z, e, rfl, ed, h1.1, h1.2, a2, a3, a4, p⟩
    · exact h.elim
  · exact h.elim
/-! ### truth -/
def fAnd (fa fb : FE) : FE := fun δ => (fa δ).bind fun r => match r with
  | .im (.bool true) => fb δ
  | .im (.bool false) => .ok (.im (.bool false))
  | _ => .no
def fOr (fa fb : FE) : FE := fun δ => (fa δ).bind fun r => match r with
  | .im (.bool true) => .ok (.im (.bool true))
  | .im (.bool false) => fb δ
  | _ => .no
def fNot (fa : FE) : FE := fun δ => (fa δ).bind fun r => match r with
  | .im (.bool b) => .ok (.im (.bool (!b)))
  | _ => .no
theorem e_one {op} (h : E_ X G W a fa) : E_ X G W (.BoolOp op [a] pos) fa := de_one h
theorem e_and (ha : E_ X G W a fa) (hb : E_ X G W (.BoolOp .And (b :: rest) pos) fb) : E_ X G W (.BoolOp .And (a :: b :: rest) pos) (fAnd fa fb) := DE.imp (de_and ha hb) fun δ P PX q =>
  Tr.sat_of (Tr.sat_bind.mp q) fun r qr => by
    split at qr
    · exact ⟨true, rfl, qr⟩
    · exact ⟨false, rfl, qr⟩
    · exact qr.elim
theorem e_or (ha : E_ X G W a fa) (hb : E_ X G W (.BoolOp .Or (b :: rest) pos) fb) : E_ X G W (.BoolOp .Or (a :: b :: rest) pos) (fOr fa fb) := DE.imp (de_or ha hb) fun δ P PX q =>
  Tr.sat_of (Tr.sat_bind.mp q) fun r qr => by
    split at qr
    · exact ⟨true, rfl, qr⟩
    · exact ⟨false, rfl, qr⟩
    · exact qr.elim
theorem e_not (ha : E_ X G W a fa) : E_ X G W (.UnaryOp .Not a pos) (fNot fa) := DE.imp (de_not ha) fun δ P PX q =>
  Tr.sat_of (Tr.sat_bind.mp q) fun r qr => by
    split at qr
    · exact ⟨_, rfl, qr⟩
    · exact qr.elim
def tAndF (t u : FT) : FT := fun δ => (t δ).bind fun b => match b with
  | true => u δ
  | false => .ok false
def tOrF (t u : FT) : FT := fun δ => (t δ).bind fun b => match b with
  | true => .ok true
  | false => u δ
def tNotF (t : FT) : FT := fun δ => (t δ).bind fun b => .ok (!b)
theorem w_and1 (ha : T_ X G W a ft) : TW_ X G W (.BoolOp .And [a] pos) ft := dw_and1 ha
theorem w_or1 (ha : T_ X G W a ft) : TW_ X G W (.BoolOp .Or [a] pos) ft := dw_or1 ha
theorem w_and (ha : T_ X G W a ft) (hb : TW_ X G W (.BoolOp .And (b :: rest) pos) fu) : TW_ X G W (.BoolOp .And (a :: b :: rest) pos) (tAndF ft fu) := DWw.imp (dw_and ha hb) fun δ P PX q =>
  Tr.sat_of (Tr.sat_bind.mp q) fun c qr => by cases c <;> exact qr
theorem w_or (ha : T_ X G W a ft) (hb : TW_ X G W (.BoolOp .Or (b :: rest) pos) fu) : TW_ X G W (.BoolOp .Or (a :: b :: rest) pos) (tOrF ft fu) := DWw.imp (dw_or ha hb) fun δ P PX q =>
  Tr.sat_of (Tr.sat_bind.mp q) fun c qr => by cases c <;> exact qr
theorem t_w (h : TW_ X G W e ft) : T_ X G W e ft := dt_w h
theorem t_not (ha : T_ X G W a ft) : T_ X G W (.UnaryOp .Not a pos) (tNotF ft) := DT.imp (dt_not ha) fun δ P PX q => Tr.sat_bind.mp q
theorem t_val (h : E_ X G W e fa) (he : ∀ whole, isTrue e X.env whole = (do let v ← whole; standAt e.pos; holding [v] (truthy v)) := by intro _; rfl) : T_ X G W e (tB fa) := t_B (dt_val h he)
def tTruF (f : FE) : FT := fun δ => (f δ).bind fun r => ofO (truR r)
theorem t_tru (ha : E_ X G W a fa) (he : ∀ whole, isTrue a X.env whole = (do let v ← whole; standAt a.pos; holding [v] (truthy v)) := by intro _; rfl) : T_ X G W a (tTruF fa) := DT.imp (dt_tru ha he) fun δ P PX q =>
  Tr.sat_of (Tr.sat_bind.mp q) fun r qr => let ⟨b, e, p⟩ := ofO_sat qr; ⟨b, e, p⟩
def fIf (t : FT) (fa fb : FE) : FE := fun δ => (t δ).bind fun b => match b with
  | true => fa δ
  | false => fb δ
theorem e_if (hc : T_ X G W c ft) (ha : E_ X G W a fa) (hb : E_ X G W b fb) : E_ X G W (.IfExp c a b pos) (fIf ft fa fb) := DE.imp (de_if hc ha hb) fun δ P PX q =>
  Tr.sat_of (Tr.sat_bind.mp q) fun c qr => by cases c <;> exact qr
def fChain (g1 g2 : G2) (fa fb fc : FE) : FE := fun δ => (fa δ).bind fun x => (fb δ).bind fun y => (g1 x y).bind fun r => match r with
  | .im (.bool true) => (fc δ).bind fun z => g2 y z
  | .im (.bool false) => .ok (.im (.bool false))
  | _ => .no
theorem chain_ok {K : PySem.W.Frag} {k1 k2 : KO} {g1 g2 : G2} (h1 : KG k1 g1) (h2 : KG k2 g2) {δ : DEnv} {P : R → Prop} {PX : DX → Prop} (q : wE K (fChain g1 g2 fa fb fc) δ P PX) : wChain k1 k2 (wE K fa) (wE K fb) (wE K fc) δ P PX :=
  Tr.sat_of (Tr.sat_bind.mp q) fun x qx => Tr.sat_of (Tr.sat_bind.mp qx) fun y qy => h1 _ _ _ _ (Tr.sat_of (Tr.sat_bind.mp qy) fun r qr => by
    split at qr
    · exact ⟨true, rfl, Tr.sat_of (Tr.sat_bind.mp qr) fun z qz => h2 _ _ _ _ qz⟩
    · exact ⟨false, rfl, qr⟩
    · exact qr.elim)
theorem e_chain {op op' : CmpOp} {r r' : R2} {k1 k2 : KO} {g1 g2 : G2} (ho : OpR X (compareOp op) r) (ho' : OpR X (compareOp op') r') (h1 : OpD X.K r k1) (h2 : OpD X.K r' k2) (kg1 : KG k1 g1) (kg2 : KG k2 g2) (ha : E_ X G W a fa) (hb : E_ X G W b fb) (hc : E_ X G W c fc)
    (hm : lastMarks [op, op'] [b, c] = false := by with_unfolding_all rfl) : E_ X G W (.Compare a [op, op'] [b, c] pos) (fChain g1 g2 fa fb fc) := DE.imp (de_chain ho ho' h1 h2 ha hb hc hm) fun δ P PX q => chain_ok kg1 kg2 q
theorem t_chain {op op' : CmpOp} {r r' : R2} {k1 k2 : KO} {g1 g2 : G2} (ho : OpR X (compareOp op) r) (ho' : OpR X (compareOp op') r') (h1 : OpD X.K r k1) (h2 : OpD X.K r' k2) (kg1 : KG k1 g1) (kg2 : KG k2 g2) (ha : E_ X G W a fa) (hb : E_ X G W b fb) (hc : E_ X G W c fc)
    (hm : lastMarks [op, op'] [b, c] = false := by with_unfolding_all rfl) : T_ X G W (.Compare a [op, op'] [b, c] pos) (tB (fChain g1 g2 fa fb fc)) := DT.imp (dt_chain ho ho' h1 h2 ha hb hc hm) fun δ P PX q => by
  have q1 : wE X.K (fChain g1 g2 fa fb fc) δ (fun r => ∃ b, r = .im (.bool b) ∧ P b) PX := Tr.sat_of (Tr.sat_bind.mp q) fun r qr => by
    split at qr
    · exact ⟨_, rfl, qr⟩
    · exact qr.elim
  exact chain_ok kg1 kg2 q1
end
end FW
set_option Elab.async false
set_option linter.all false
set_option maxRecDepth 100000
set_option maxHeartbeats 4000000
namespace FW
open PySem PySem.Spec L2 DW
section
variable {X : Cx} {G : Gd} {W : WX} {st : Bool} {tg iter e a b c o elt kx vx : Expr} {es rest : List Expr} {fe fa fb fc fo fk fv : FE} {ft fu : FT} {faa : FA} {fi : FI} {fg : FG} {fgs : FGs} {pos p np p2 : Pos} {ts us : List Nat} {s : Stmt} {body : List Stmt}
abbrev G_ (X : Cx) (G : Gd) (ts : List Nat) (e : Expr) (f : FG) : Prop := DG X G ts e (wG f)
abbrev Gs_ (X : Cx) (G : Gd) (ts : List Nat) (es : List Expr) (f : FGs) : Prop := DGs X G ts es (wGs f)
/-! ### slices -/
abbrev FO := DEnv → Tr (Option Int)
def wO (K : PySem.W.Frag) (f : FO) : WO := fun δ P PX => (f δ).sat P fun x => PX (toX K x)
abbrev O_ (X : Cx) (G : Gd) (W : WX) (o : Option Expr) (f : FO) : Prop := DO X G W o (wO X.K f)
theorem DO.imp {o : Option Expr} {wo wo' : WO} (h : DO X G W o wo) (i : ∀ δ P PX, wo' δ P PX → wo δ P PX) : DO X G W o wo' := ⟨fun pins s σ H Q I ⟨F, δ, P, PX, S, p, k, xk⟩ => h.run pins s σ H Q I ⟨F, δ, P, PX, S, i _ _ _ p, k, xk⟩⟩
def oN : FO := fun _ => .ok none
def oS (f : FE) : FO := fun δ => (f δ).bind fun r => match r with
  | .im (.int i) => .ok (some i)
  | _ => .no
theorem o_none : O_ X G W none oN := DO.imp do_none fun δ P PX q => q
theorem o_some (he : E_ X G W e fe) : O_ X G W (some e) (oS fe) := DO.imp (do_some he) fun δ P PX q => Tr.sat_of (Tr.sat_bind.mp q) fun r qr => by
  split at qr
  · exact ⟨_, rfl, qr⟩
  · exact qr.elim
def gSlice (r : R) (lo hi : Option Int) : Tr R := match r with
  | .im (.str z) => gd (szOk z.length) (.ok (.im (.str (Txt.slice z lo hi))))
  | .im (.tuple xs) => .ok (.im (.tuple (cutD xs lo hi)))
  | r => match r.lst with
    | some xs => .ok (.ol (cutD xs lo hi))
    | none => .no
theorem slice_ok {r : R} {lo hi : Option Int} {P : R → Prop} {PX : Xn → Prop} (h : (gSlice r lo hi).sat P PX) : kSlice r lo hi P := by
  unfold gSlice at h
  split at h
  · obtain ⟨h1, h2⟩ := gd_sat h; exact ⟨szOk_ok h1, h2⟩
  · exact h
  · split at h
    · rename_i xs e
      cases r with
      | im d => cases d with
        | list ys => exact ⟨xs, e, h⟩
        | _ => cases e
      | ol ys => exact ⟨xs, e, h⟩
      | bl ys => exact ⟨xs, e, h⟩
      | _ => cases e
    · exact h.elim
def fSlice (fa : FE) (lo hi : FO) : FE := fun δ => (fa δ).bind fun r => (lo δ).bind fun l => (hi δ).bind fun h => gSlice r l h
theorem e_slice {lo hi : Option Expr} {fl fh : FO} (he : E_ X G W e fe) (hl : O_ X G W lo fl) (hh : O_ X G W hi fh) : E_ X G W (.Subscript e (.Slice lo hi none p2) pos) (fSlice fe fl fh) := DE.imp (de_slice he hl hh) fun δ P PX q =>
  Tr.sat_of (Tr.sat_bind.mp q) fun r qr => Tr.sat_of (Tr.sat_bind.mp qr) fun l ql => Tr.sat_of (Tr.sat_bind.mp ql) fun h qh => slice_ok qh
/-! ### targets -/
def gN (i : Nat) : FG := fun d δ => .ok (δ.set i (some (.im d)))
def gsNil : FGs := fun ds δ => match ds with
  | [] => .ok δ
  | _ => .no
def gsCons (g : FG) (gs : FGs) : FGs := fun ds δ => match ds with
  | d :: r => (g d δ).bind fun δ1 => gs r δ1
  | [] => .no
def gTup (n : Nat) (gs : FGs) : FG := fun d δ => match d with
  | .tuple ds => gd (decide (ds.length = n)) (gs ds δ)
  | _ => .no
def gUnl (n : Nat) (gs : FGs) : FG := fun d δ => match d with
  | .list ds => gd (decide (ds.length = n)) (gs ds δ)
  | _ => .no
theorem g_name {i : Nat} (h : PG X e (gName i)) : G_ X G [i] e (gN i) := DG.imp (dg_name h) fun d δ P q => q
theorem gs_nil : Gs_ X G [] [] gsNil := DGs.imp dgs_nil fun ds δ P q => by
  cases ds with
  | nil => exact ⟨rfl, q⟩
  | cons d r => exact q.elim
theorem gs_cons (h : G_ X G ts e fg) (hs : Gs_ X G us es fgs) (ha : (assignEach (e :: es) X.env).map (·.2) = assign e X.env :: (assignEach es X.env).map (·.2) := by rfl) : Gs_ X G (ts ++ us) (e :: es) (gsCons fg fgs) :=
  DGs.imp (dgs_cons h hs ha) fun ds δ P q => by
    cases ds with
    | nil => exact q.elim
    | cons d r => exact ⟨d, r, rfl, Tr.sat_bind.mp q⟩
theorem g_tup {n k : Nat} (hc : X.calm = true) (h : Gs_ X G ts es fgs) (hn : (assignEach es X.env).length = n := by rfl) (hst : (assignEach es X.env).findIdx? (·.1) = none := by rfl) : G_ X G ts (.Tuple es k pos) (gTup n fgs) :=
  DG.imp (dg_tup hc h hn hst) fun d δ P q => by
    unfold wG gTup at q
    split at q
    · obtain ⟨h1, h2⟩ := gd_sat q; exact ⟨_, rfl, of_decide_eq_true h1, h2⟩
    · exact q.elim
theorem g_unl {n k : Nat} (hc : X.calm = true) (h : Gs_ X G ts es fgs) (hn : (assignEach es X.env).length = n := by rfl) (hst : (assignEach es X.env).findIdx? (·.1) = none := by rfl) : G_ X G ts (.Tuple es k pos) (gUnl n fgs) :=
  DG.imp (dg_unl hc h hn hst) fun d δ P q => by
    unfold wG gUnl at q
    split at q
    · obtain ⟨h1, h2⟩ := gd_sat q; exact ⟨_, rfl, of_decide_eq_true h1, h2⟩
    · exact q.elim
/-! ### what is walked -/
def iL (f : FE) : FI := fun δ => (f δ).bind fun r => match r.dat with
  | some (.list xs) => .ok xs
  | _ => .no
def iLb (f : FE) : FI := fun δ => (f δ).bind fun r => ofO r.lst
def iT (f : FE) : FI := fun δ => (f δ).bind fun r => ofO r.tup
def iS (f : FE) : FI := fun δ => (f δ).bind fun r => match r with
  | .im (.str s) => .ok (signs s)
  | _ => .no
def rgOk (i : Int) : Bool := decide (i.natAbs < 4611686018427387904)
theorem rgOk_ok {i : Int} (h : rgOk i = true) : -(2 ^ 62) ≤ i ∧ i < 2 ^ 62 := by
  unfold rgOk at h
  have h1 := of_decide_eq_true h
  exact ⟨by omega, by omega⟩
def iR1 (fa : FA) : FI := fun δ => (fa δ).bind fun rs => match rs with
  | [.im (.int j)] => gd (rgOk j) (.ok (intsD 0 j.toNat))
  | _ => .no
def iR2 (fa : FA) : FI := fun δ => (fa δ).bind fun rs => match rs with
  | [.im (.int i), .im (.int j)] => gd (rgOk i && rgOk j) (.ok (intsD i (j - i).toNat))
  | _ => .no
def iE (fa : FA) : FI := fun δ => (fa δ).bind fun rs => match rs with
  | [r] => match r.dat with
    | some (.list xs) => .ok (enums xs)
    | _ => .no
  | _ => .no
theorem i_list (he : E_ X G W e fe) : I_ X G W true tg e (iL fe) := DI.imp (di_list he) fun δ P PX q => Tr.sat_of (Tr.sat_bind.mp q) fun r qr => by
  split at qr
  · rename_i xs e; exact ⟨xs, e, qr⟩
  · exact qr.elim
theorem i_listb (he : E_ X G W e fe) : I_ X G W false tg e (iLb fe) := DI.imp (di_listb he) fun δ P PX q => Tr.sat_of (Tr.sat_bind.mp q) fun r qr => let ⟨xs, e, p⟩ := ofO_sat qr; ⟨xs, e, p⟩
theorem i_tup (he : E_ X G W e fe) : I_ X G W true tg e (iT fe) := DI.imp (di_tup he) fun δ P PX q => Tr.sat_of (Tr.sat_bind.mp q) fun r qr => let ⟨xs, e, p⟩ := ofO_sat qr; ⟨xs, e, p⟩
theorem i_str (he : E_ X G W e fe) : I_ X G W true tg e (iS fe) := DI.imp (di_str he) fun δ P PX q => Tr.sat_of (Tr.sat_bind.mp q) fun r qr => by
  split at qr
  · exact ⟨_, rfl, qr⟩
  · exact qr.elim
theorem i_range1 (hg : Gl X "range") (hm : X.mg "range" = none) (ha : A_ X G W [a] faa) (hs : starEach [a] X.env = [(false, eval a X.env)] := by rfl) : I_ X G W st tg (.Call (.Name "range" p) [a] [] pos) (iR1 faa) := DI.imp (di_range1 hg hm ha hs) fun δ P PX q => Tr.sat_of (Tr.sat_bind.mp q) fun rs qr => by
  split at qr
  · obtain ⟨h1, h2⟩ := gd_sat qr
    have h3 := rgOk_ok h1
    exact ⟨_, rfl, h3.1, h3.2, h2⟩
  · exact qr.elim
theorem i_range2 (hg : Gl X "range") (hm : X.mg "range" = none) (ha : A_ X G W [a, b] faa) (hs : starEach [a, b] X.env = [(false, eval a X.env), (false, eval b X.env)] := by rfl) (hs2 : starEach [b] X.env = [(false, eval b X.env)] := by rfl) : I_ X G W st tg (.Call (.Name "range" p) [a, b] [] pos) (iR2 faa) :=
  DI.imp (di_range2 hg hm ha hs hs2) fun δ P PX q => Tr.sat_of (Tr.sat_bind.mp q) fun rs qr => by
    split at qr
    · obtain ⟨h1, h2⟩ := gd_sat qr
      rw [Bool.and_eq_true] at h1
      have h3 := rgOk_ok h1.1
      have h4 := rgOk_ok h1.2
      exact ⟨_, _, rfl, ⟨h3.1, h3.2, h4.1, h4.2⟩, h2⟩
    · exact qr.elim
theorem i_enum {elts : List Expr} {kk : Nat} {tpos : Pos} (hg : Gl X "enumerate") (hm : X.mg "enumerate" = none) (ha : A_ X G W [e] faa) (hs : starEach [e] X.env = [(false, eval e X.env)] := by rfl) : I_ X G W true (.Tuple elts kk tpos) (.Call (.Name "enumerate" p) [e] [] pos) (iE faa) :=
  DI.imp (di_enum hg hm ha hs) fun δ P PX q => Tr.sat_of (Tr.sat_bind.mp q) fun rs qr => by
    split at qr
    · split at qr
      · rename_i xs e1; exact ⟨_, xs, rfl, e1, qr⟩
      · exact qr.elim
    · exact qr.elim
/-! ### comprehensions -/
def calm {α : Type} : Tr α → Tr α
  | .ok a => .ok a
  | .draw m k => .draw m fun r => calm (k r)
  | _ => .no
theorem calm_sat {α : Type} {t : Tr α} {P : α → Prop} {PX PX' : Xn → Prop} (h : (calm t).sat P PX) : t.sat P PX' := by
  induction t with
  | ok a => exact h
  | ex x => exact h.elim
  | no => exact h.elim
  | draw m k ih => exact ⟨h.1, h.2.1, fun r r0 r1 => ih r (h.2.2 r r0 r1)⟩
/-- the items' turns: δ0 the environment ahead of each -/
def lcF (g : FG) (t : FT) (f : FE) (δ0 : DEnv) : List D → List D → Tr (List D)
  | [], acc => .ok acc
  | d :: ds, acc => (calm (g d δ0)).bind fun δ1 => (calm (t δ1)).bind fun b => match b with
    | true => (calm (f δ1)).bind fun r => match r.dat with
      | some d' => gd (decide (acc.length < 16777216)) (lcF g t f δ0 ds (acc ++ [d']))
      | none => .no
    | false => lcF g t f δ0 ds acc
def fLc (i : FI) (g : FG) (t : FT) (f : FE) (vs : List Nat) : FE := fun δ => (i δ).bind fun items => (lcF g t f (wipeD δ vs) items []).bind fun out => .ok (.ol out)
def tYes : FT := fun _ => .ok true
theorem lcF_ok {K : PySem.W.Frag} {g : FG} {t : FT} {f : FE} {δ0 : DEnv} {P : List D → Prop} {PX : Xn → Prop} : ∀ (items acc : List D), (lcF g t f δ0 items acc).sat P PX → lcGo (wG g) (wT K t) (wE K f) P δ0 items acc
  | [], acc, h => h
  | d :: ds, acc, h => by
    have h1 := calm_sat (PX' := fun _ => False) (Tr.sat_bind.mp h)
    refine Tr.sat_of h1 fun δ1 q1 => ?_
    have h2 := calm_sat (PX' := fun x => False) (Tr.sat_bind.mp q1)
    refine Tr.sat_of h2 fun b q2 => ?_
    cases b with
    | true =>
      rw [if_pos rfl]
      have h3 := calm_sat (PX' := fun x => False) (Tr.sat_bind.mp q2)
      refine Tr.sat_of h3 fun r q3 => ?_
      split at q3
      · rename_i d' e
        obtain ⟨h4, h5⟩ := gd_sat q3
        exact ⟨d', e, by rw [sizeLine_eq]; exact of_decide_eq_true h4, lcF_ok ds _ h5⟩
      · exact q3.elim
    | false =>
      rw [if_neg Bool.false_ne_true]
      exact lcF_ok ds _ q2
theorem lc_imp {K : PySem.W.Frag} {fi : FI} {g : FG} {t : FT} {f : FE} {vs : List Nat} {δ : DEnv} {P : R → Prop} {PX : DX → Prop} (q : wE K (fLc fi g t f vs) δ P PX) : wLc (wI K fi) (wG g) (wT K t) (wE K f) vs δ P PX :=
  Tr.sat_of (Tr.sat_bind.mp q) fun items qi => lcF_ok _ _ (Tr.sat_of (Tr.sat_bind.mp qi) fun out qo => qo)
section
variable {scope : Scope} {own : List (Str × Nat)}
theorem e_lc (hc : X.calm = true) (hN : X.N.Nodup) (hi : I_ X G W st tg iter fi) (ok : BlkOk X.N X.env.scope scope own)
    (hg : ∀ (s : Shared) (H : Hp) (C : Addr) (cl : List (Str × Addr)) (fp : List Addr), G_ (X.blk s H scope (compEnvC scope cl C X.env) fp) G ts tg fg)
    (he : ∀ (s : Shared) (H : Hp) (C : Addr) (cl : List (Str × Addr)) (fp : List Addr), E_ (X.blk s H scope (compEnvC scope cl C X.env) fp) G wTrue elt fe)
    (hts : ∀ t ∈ ts, t ∈ own.map (·.2) := by decide) (hs : ∀ x, foldedSetIterable iter X.env x = pure x := by intro _; rfl) : E_ X G W (.ListComp elt [⟨tg, iter, [], 0⟩] scope pos) (fLc fi fg tYes fe (own.map (·.2))) :=
  DE.imp (de_lc hc hN hi ok hg he hts hs) fun δ P PX q => lc_imp q
theorem e_lcIf (hc : X.calm = true) (hN : X.N.Nodup) (hi : I_ X G W st tg iter fi) (ok : BlkOk X.N X.env.scope scope own)
    (hg : ∀ (s : Shared) (H : Hp) (C : Addr) (cl : List (Str × Addr)) (fp : List Addr), G_ (X.blk s H scope (compEnvC scope cl C X.env) fp) G ts tg fg)
    (ht : ∀ (s : Shared) (H : Hp) (C : Addr) (cl : List (Str × Addr)) (fp : List Addr), T_ (X.blk s H scope (compEnvC scope cl C X.env) fp) G wTrue c ft)
    (he : ∀ (s : Shared) (H : Hp) (C : Addr) (cl : List (Str × Addr)) (fp : List Addr), E_ (X.blk s H scope (compEnvC scope cl C X.env) fp) G wTrue elt fe)
    (hts : ∀ t ∈ ts, t ∈ own.map (·.2) := by decide) (hs : ∀ x, foldedSetIterable iter X.env x = pure x := by intro _; rfl) : E_ X G W (.ListComp elt [⟨tg, iter, [c], 0⟩] scope pos) (fLc fi fg ft fe (own.map (·.2))) :=
  DE.imp (de_lcIf hc hN hi ok hg ht he hts hs) fun δ P PX q => lc_imp q
/-- the dict's own put -/
def putF (s : SV) (kd v : D) : Tr SV := match s with
  | .oK kvs => (ofO (DW.keyOf kd)).bind fun k => gd (decide (kvs.length < 16777216)) (.ok (.oK (putD kvs k v)))
  | .oT kvs => match kd with
    | .tuple ds => (ofO (DW.keysOf ds)).bind fun ks => gd (decide (kvs.length < 16777216)) (.ok (.oT (putD kvs ks v)))
    | _ => .no
  | _ => .no
theorem putF_ok {s : SV} {kd v : D} {P : SV → Prop} {PX : Xn → Prop} (h : (putF s kd v).sat P PX) : putE s kd v P := by
  unfold putF at h
  split at h
  · obtain ⟨k, e, p⟩ := ofO_sat (Tr.sat_bind.mp h)
    obtain ⟨h1, h2⟩ := gd_sat p
    exact ⟨k, e, by rw [sizeLine_eq]; exact of_decide_eq_true h1, h2⟩
  · split at h
    · obtain ⟨k, e, p⟩ := ofO_sat (Tr.sat_bind.mp h)
      obtain ⟨h1, h2⟩ := gd_sat p
      exact ⟨_, k, rfl, e, by rw [sizeLine_eq]; exact of_decide_eq_true h1, h2⟩
    · exact h.elim
  · exact h.elim
def dcF (g : FG) (t : FT) (fk fv : FE) (δ0 : DEnv) : List D → SV → Tr SV
  | [], s => .ok s
  | d :: ds, s => (calm (g d δ0)).bind fun δ1 => (calm (t δ1)).bind fun b => match b with
    | true => (calm (fk δ1)).bind fun rk => match rk with
      | .im kd => (calm (fv δ1)).bind fun r => match r.dat with
        | some v => (putF s kd v).bind fun s1 => dcF g t fk fv δ0 ds s1
        | none => .no
      | _ => .no
    | false => dcF g t fk fv δ0 ds s
def fDc (s0 : SV) (i : FI) (g : FG) (t : FT) (fk fv : FE) (vs : List Nat) : FE := fun δ => (i δ).bind fun items => (dcF g t fk fv (wipeD δ vs) items s0).bind fun s => .ok s.rO
theorem dcF_ok {K : PySem.W.Frag} {g : FG} {t : FT} {fk fv : FE} {δ0 : DEnv} {P : SV → Prop} {PX : Xn → Prop} : ∀ (items : List D) (s : SV), (dcF g t fk fv δ0 items s).sat P PX → dcGo (wG g) (wT K t) (wE K fk) (wE K fv) P δ0 items s
  | [], s, h => h
  | d :: ds, s, h => by
    have h1 := calm_sat (PX' := fun _ => False) (Tr.sat_bind.mp h)
    refine Tr.sat_of h1 fun δ1 q1 => ?_
    have h2 := calm_sat (PX' := fun _ => True) (Tr.sat_bind.mp q1)
    refine Tr.sat_of h2 fun b q2 => ?_
    cases b with
    | true =>
      rw [if_pos rfl]
      have h3 := calm_sat (PX' := fun _ => True) (Tr.sat_bind.mp q2)
      refine Tr.sat_of h3 fun rk q3 => ?_
      split at q3
      · rename_i kd
        refine ⟨kd, rfl, ?_⟩
        have h4 := calm_sat (PX' := fun _ => True) (Tr.sat_bind.mp q3)
        refine Tr.sat_of h4 fun r q4 => ?_
        split at q4
        · rename_i v e
          refine ⟨v, e, putF_ok (Tr.sat_of (Tr.sat_bind.mp q4) fun s1 q5 => dcF_ok ds s1 q5)⟩
        · exact q4.elim
      · exact q3.elim
    | false =>
      rw [if_neg Bool.false_ne_true]
      exact dcF_ok ds _ q2
theorem e_dc {o0 : HO} {s0 : SV} (em : Em o0 s0) (hu : X.A.units + 1 < cLine) (hc : X.calm = true) (hN : X.N.Nodup) (hi : I_ X G W st tg iter fi) (ok : BlkOk X.N X.env.scope scope own)
    (hg : ∀ (s : Shared) (H : Hp) (C : Addr) (cl : List (Str × Addr)) (fp : List Addr), G_ (X.blk s H scope (compEnvC scope cl C X.env) fp) G ts tg fg)
    (hk : ∀ (s : Shared) (H : Hp) (C : Addr) (cl : List (Str × Addr)) (fp : List Addr), E_ (X.blk s H scope (compEnvC scope cl C X.env) fp) G wTrue kx fk) (hv : ∀ (s : Shared) (H : Hp) (C : Addr) (cl : List (Str × Addr)) (fp : List Addr), E_ (X.blk s H scope (compEnvC scope cl C X.env) fp) G wTrue vx fv)
    (hts : ∀ t ∈ ts, t ∈ own.map (·.2) := by decide) (hs : ∀ x, foldedSetIterable iter X.env x = pure x := by intro _; rfl) : E_ X G W (.DictComp kx vx [⟨tg, iter, [], 0⟩] scope pos) (fDc s0 fi fg tYes fk fv (own.map (·.2))) :=
  DE.imp (de_dc em hu hc hN hi ok hg hk hv hts hs) fun δ P PX q => Tr.sat_of (Tr.sat_bind.mp q) fun items qi => dcF_ok _ _ (Tr.sat_of (Tr.sat_bind.mp qi) fun s qs => qs)
end
def fNewK : FE := fun _ => .ok (.oK [])
def fNewT : FE := fun _ => .ok (.oT [])
theorem e_newK : E_ X G W (.Dict [] [] pos) fNewK := DE.imp de_newK fun δ P PX q => q
theorem e_newT : E_ X G W (.Dict [] [] pos) fNewT := DE.imp de_newT fun δ P PX q => q
def fDispT (fk fv : FE) : FE := fun δ => (fk δ).bind fun r => match r with
  | .im (.tuple ds) => match DW.keysOf ds with
    | some ks => (fv δ).bind fun r2 => match r2.dat with
      | some d => .ok (.oT [(ks, d)])
      | none => .no
    | none => .no
  | _ => .no
theorem e_dispT (hu : X.A.units + 1 < cLine) (hk : E_ X G W kx fk) (hv : E_ X G W vx fv) : E_ X G W (.Dict [some kx] [vx] pos) (fDispT fk fv) := DE.imp (de_dispT hu hk hv) fun δ P PX q => Tr.sat_of (Tr.sat_bind.mp q) fun r qr => by
  split at qr
  · rename_i ds
    split at qr
    · rename_i ks e
      refine ⟨ds, ks, rfl, e, Tr.sat_of (Tr.sat_bind.mp qr) fun r2 q2 => ?_⟩
      split at q2
      · rename_i d e2; exact ⟨d, e2, q2⟩
      · exact q2.elim
    · exact qr.elim
  · exact qr.elim
end
end FW
set_option Elab.async false
set_option linter.all false
set_option maxRecDepth 100000
set_option maxHeartbeats 4000000
namespace FW
open PySem PySem.Spec L2 DW
/-! ### statements -/
inductive Fl where
  | nx (δ : DEnv) | rt (r : R) | bk (δ : DEnv) | ct (δ : DEnv)
abbrev FS := DEnv → Tr Fl
def Fl.at (E : DEnds) : Fl → Prop
  | .nx δ => E.nx δ
  | .rt r => E.rt r
  | .bk δ => E.bk δ
  | .ct δ => E.ct δ
def wS (K : PySem.W.Frag) (f : FS) : WS := fun E δ => (f δ).sat (Fl.at E) fun x => E.ex (toX K x)
def sNx : FS := fun δ => .ok (.nx δ)
def sBk : FS := fun δ => .ok (.bk δ)
def sCt : FS := fun δ => .ok (.ct δ)
def sSq (s t : FS) : FS := fun δ => (s δ).bind fun o => match o with
  | .nx δ' => t δ'
  | o => .ok o
def sIfF (t : FT) (a b : FS) : FS := fun δ => (t δ).bind fun c => match c with
  | true => a δ
  | false => b δ
def sSetF (i : Nat) (f : FE) : FS := fun δ => (f δ).bind fun r => match r.sv with
  | some v => .ok (.nx (δ.set i (some v)))
  | none => .no
def sAsgF (f : FE) (g : FG) : FS := fun δ => (f δ).bind fun r => match r.dat with
  | some d => (calm (g d δ)).bind fun δ' => .ok (.nx δ')
  | none => .no
def sAugF (i : Nat) (g : G2) (f : FE) : FS := fun δ => match slotD δ i with
  | some s0 => (f δ).bind fun r => (g s0.read r).bind fun r' => match r'.sv with
    | some v => .ok (.nx (δ.set i (some v)))
    | none => .no
  | none => .no
def sDropF (f : FE) : FS := fun δ => (f δ).bind fun _ => .ok (.nx δ)
def sRetF (f : FE) : FS := fun δ => (f δ).bind fun r => .ok (.rt r)
def sRetVF (i : Nat) : FS := fun δ => match slotD δ i with
  | some s => .ok (.rt s.rO)
  | none => .no
def sFrzF (i : Nat) (s : FS) : FS := fun δ => match slotD δ i with
  | some (.ol xs) => s (δ.set i (some (.im (.list xs))))
  | _ => .no
def sAppF (i : Nat) (f : FE) : FS := fun δ => match slotD δ i with
  | some (.ol xs) => (f δ).bind fun r => match r.dat with
    | some d => gd (decide (xs.length < 16777216)) (.ok (.nx (δ.set i (some (.ol (xs ++ [d]))))))
    | none => .no
  | _ => .no
def sExtF (i : Nat) (f : FE) : FS := fun δ => match slotD δ i with
  | some (.ol xs) => (f δ).bind fun r => match r.own with
    | some ys => gd (szOk (xs.length + ys.length)) (.ok (.nx (δ.set i (some (.ol (xs ++ ys))))))
    | none => .no
  | _ => .no
def sPopF (j : Nat) (g : FG) : FS := fun δ => match slotD δ j with
  | some (.ol xs) => (ofO xs[xs.length - 1]?).bind fun d => (calm (g d (δ.set j (some (.ol xs.dropLast))))).bind fun δ' => .ok (.nx δ')
  | _ => .no
def sPop0F (j : Nat) (g : FG) : FS := fun δ => match slotD δ j with
  | some (.ol (d :: xs)) => (calm (g d (δ.set j (some (.ol xs))))).bind fun δ' => .ok (.nx δ')
  | _ => .no
def sPutF (i : Nat) (fk fv : FE) : FS := fun δ => match slotD δ i with
  | some s0 => (fv δ).bind fun r => match r.dat with
    | some d => (fk δ).bind fun r2 => match r2 with
      | .im kd => (putF s0 kd d).bind fun s1 => .ok (.nx (δ.set i (some s1)))
      | _ => .no
    | none => .no
  | none => .no
def forF (g : FG) (b : FS) : List D → FS
  | [], δ => .ok (.nx δ)
  | d :: ds, δ => (calm (g d δ)).bind fun δ1 => (b δ1).bind fun o => match o with
    | .nx δ' => forF g b ds δ'
    | .ct δ' => forF g b ds δ'
    | .bk δ' => .ok (.nx δ')
    | .rt r => .ok (.rt r)
def sForF (i : FI) (g : FG) (b : FS) : FS := fun δ => (i δ).bind fun items => forF g b items δ
/-- n turns at most -/
def whF (t : FT) (b : FS) : Nat → FS
  | 0, _ => .no
  | n + 1, δ => (t δ).bind fun c => match c with
    | false => .ok (.nx δ)
    | true => (b δ).bind fun o => match o with
      | .nx δ' => whF t b n δ'
      | .ct δ' => whF t b n δ'
      | .bk δ' => .ok (.nx δ')
      | .rt r => .ok (.rt r)
def fuel : Nat := 1000000
def sWhF (t : FT) (b : FS) : FS := whF t b fuel
def sRaise0F (x : Str) : FS := fun _ => .ex ⟨x, []⟩
section
variable {X : Cx} {G : Gd} {W : WX} {st : Bool} {tg iter e a b c o : Expr} {es rest : List Expr} {fe fa fb fk fv : FE} {ft fu : FT} {faa : FA} {fi : FI} {fg : FG} {pos p np : Pos} {ts us : List Nat} {s : Stmt} {ss body orelse suite : List Stmt} {ws ws' : WS} {f g : FS} {K : PySem.W.Frag}
abbrev S_ (X : Cx) (G : Gd) (W : WX) (s : Stmt) (f : FS) : Prop := DS X G W s (wS X.K f)
abbrev Ss_ (X : Cx) (G : Gd) (W : WX) (s : List Stmt) (f : FS) : Prop := DSs X G W s (wS X.K f)
theorem DS.imp (h : DS X G W s ws) (i : ∀ E δ, ws' E δ → ws E δ) : DS X G W s ws' := PS.imp h fun D σ H ⟨F, δ, E, S, p, k⟩ => ⟨F, δ, E, S, i _ _ p, k⟩
theorem DSs.imp (h : DSs X G W ss ws) (i : ∀ E δ, ws' E δ → ws E δ) : DSs X G W ss ws' := PSs.imp h fun D σ H ⟨F, δ, E, S, p, k⟩ => ⟨F, δ, E, S, i _ _ p, k⟩
theorem s_nil : Ss_ X G W [] sNx := DSs.imp ds_nil fun E δ q => q
theorem s_cons (h : S_ X G W s f) (hs : Ss_ X G W ss g) : Ss_ X G W (s :: ss) (sSq f g) := DSs.imp (ds_cons h hs) fun E δ q => Tr.sat_of (Tr.sat_bind.mp q) fun o qo => by
  cases o <;> exact qo
theorem s_one (h : S_ X G W s f) : Ss_ X G W [s] f := ds_one h
theorem s_pass : S_ X G W (.Pass pos) sNx := DS.imp ds_pass fun E δ q => q
theorem s_break : S_ X G W (.Break pos) sBk := DS.imp ds_break fun E δ q => q
theorem s_continue : S_ X G W (.Continue pos) sCt := DS.imp ds_continue fun E δ q => q
theorem s_if (hc : T_ X G W c ft) (ha : Ss_ X G W body f) (hb : Ss_ X G W orelse g) : S_ X G W (.If c body orelse pos) (sIfF ft f g) := DS.imp (ds_if hc ha hb) fun E δ q => Tr.sat_of (Tr.sat_bind.mp q) fun b qb => by
  cases b <;> exact qb
theorem set_imp {i : Nat} {E : DEnds} {δ : DEnv} (q : wS K (sSetF i fe) E δ) : sSet i (wE K fe) E δ := Tr.sat_of (Tr.sat_bind.mp q) fun r qr => by
  split at qr
  · rename_i v e; exact ⟨v, e, qr⟩
  · exact qr.elim
theorem s_set {i : Nat} (h : PS X s (tAsg (dT X.K G W (wE X.K fe)) (gName i))) : S_ X G W s (sSetF i fe) := DS.imp (ds_set h) fun E δ q => set_imp q
theorem s_asg (h : PS X s (tAsg (dT X.K G W (wE X.K fe)) (dGT X.K G ts (wG fg)))) : S_ X G W s (sAsgF fe fg) := DS.imp (ds_asg h) fun E δ q => Tr.sat_of (Tr.sat_bind.mp q) fun r qr => by
  split at qr
  · rename_i d e; exact ⟨d, e, calm_sat (Tr.sat_bind.mp qr)⟩
  · exact qr.elim
theorem s_aug {i : Nat} {r : R2} {kk : KO} {gg : G2} (hk : OpD X.K r kk) (hg : KG kk gg) (h : PS X s (tAug i (dT X.K G W (wE X.K fe)) r)) : S_ X G W s (sAugF i gg fe) := DS.imp (ds_aug hk h) fun E δ q => by
  unfold wS sAugF at q
  cases e : slotD δ i with
  | none => rw [e] at q; exact q.elim
  | some s0 =>
    rw [e] at q
    refine ⟨s0, slotD_eq e, Tr.sat_of (Tr.sat_bind.mp q) fun r qr => hg _ _ _ _ (Tr.sat_of (Tr.sat_bind.mp qr) fun r' q' => ?_)⟩
    split at q'
    · rename_i v e2; exact ⟨v, e2, q'⟩
    · exact q'.elim
theorem s_expr (h : PS X s (tDrop (dT X.K G W (wE X.K fe)))) : S_ X G W s (sDropF fe) := DS.imp (ds_expr h) fun E δ q => Tr.sat_of (Tr.sat_bind.mp q) fun r qr => qr
theorem s_ret (h : PS X s (tRet (dT X.K G W (wE X.K fe)))) : S_ X G W s (sRetF fe) := DS.imp (ds_ret h) fun E δ q => Tr.sat_of (Tr.sat_bind.mp q) fun r qr => qr
theorem s_retV {i : Nat} (h : PS X s (tRet (tVar i))) : S_ X G W s (sRetVF i) := DS.imp (ds_retV h) fun E δ q => by
  unfold wS sRetVF at q
  cases e : slotD δ i with
  | none => rw [e] at q; exact q.elim
  | some s0 => rw [e] at q; exact ⟨s0, slotD_eq e, by cases s0 <;> exact q⟩
theorem s_freeze {i : Nat} (h : S_ X G W s f) : S_ X G W s (sFrzF i f) := DS.imp (ds_freeze (i := i) h) fun E δ q => by
  unfold wS sFrzF at q
  split at q
  · rename_i xs e; exact ⟨xs, slotD_eq e, q⟩
  · exact q.elim
theorem s_append {i : Nat} (h : PS X s (tDrop (tBM X.K "list" rAppend (tVar i) (tCons (dT X.K G W (wE X.K fe)) tNil)))) : S_ X G W s (sAppF i fe) := DS.imp (ds_append h) fun E δ q => by
  unfold wS sAppF at q
  split at q
  · rename_i xs e
    refine ⟨xs, slotD_eq e, Tr.sat_of (Tr.sat_bind.mp q) fun r qr => ?_⟩
    split at qr
    · rename_i d e2; obtain ⟨h1, h2⟩ := gd_sat qr; exact ⟨d, e2, by rw [sizeLine_eq]; exact of_decide_eq_true h1, h2⟩
    · exact qr.elim
  · exact q.elim
theorem s_extend {i : Nat} (h : PS X s (tDrop (tBM X.K "list" rExtend (tVar i) (tCons (dT X.K G W (wE X.K fe)) tNil)))) : S_ X G W s (sExtF i fe) := DS.imp (ds_extend h) fun E δ q => by
  unfold wS sExtF at q
  split at q
  · rename_i xs e
    refine ⟨xs, slotD_eq e, Tr.sat_of (Tr.sat_bind.mp q) fun r qr => ?_⟩
    split at qr
    · rename_i ys e2; obtain ⟨h1, h2⟩ := gd_sat qr; exact ⟨ys, e2, szOk_ok h1, h2⟩
    · exact qr.elim
  · exact q.elim
theorem s_pop {j : Nat} (h : PS X s (tAsg (tBM0 X.K "list" rPop (tVar j)) (dGT X.K G ts (wG fg)))) : S_ X G W s (sPopF j fg) := DS.imp (ds_pop h) fun E δ q => by
  unfold wS sPopF at q
  split at q
  · rename_i xs e
    obtain ⟨d, e2, p⟩ := ofO_sat (Tr.sat_bind.mp q)
    exact ⟨xs, d, slotD_eq e, e2, calm_sat (Tr.sat_bind.mp p)⟩
  · exact q.elim
theorem s_pop0 {j : Nat} (h : PS X s (tAsg (tBM X.K "list" rPopAt (tVar j) (tCons (tC (.int 0)) tNil)) (dGT X.K G ts (wG fg)))) : S_ X G W s (sPop0F j fg) := DS.imp (ds_pop0 h) fun E δ q => by
  unfold wS sPop0F at q
  split at q
  · rename_i d xs e; exact ⟨d, xs, slotD_eq e, calm_sat (Tr.sat_bind.mp q)⟩
  · exact q.elim
theorem s_put {i : Nat} (h : PS X s (sDPut (tVar i) (dT X.K G W (wE X.K fk)) (dT X.K G W (wE X.K fe)))) : S_ X G W s (sPutF i fk fe) := DS.imp (ds_put h) fun E δ q => by
  unfold wS sPutF at q
  split at q
  · rename_i s0 e
    refine ⟨s0, slotD_eq e, Tr.sat_of (Tr.sat_bind.mp q) fun r qr => ?_⟩
    split at qr
    · rename_i d e2
      refine ⟨d, e2, Tr.sat_of (Tr.sat_bind.mp qr) fun r2 q2 => ?_⟩
      split at q2
      · rename_i kd; exact ⟨kd, rfl, putF_ok (Tr.sat_bind.mp q2)⟩
      · exact q2.elim
    · exact qr.elim
  · exact q.elim
theorem forF_ok {E : DEnds} : ∀ (items : List D) (δ : DEnv), (forF fg f items δ).sat (Fl.at E) (fun x => E.ex (toX K x)) → forGo (wG fg) (wS K f) E items δ
  | [], δ, h => h
  | d :: ds, δ, h => by
    refine Tr.sat_of (calm_sat (Tr.sat_bind.mp h)) fun δ1 q => ?_
    refine Tr.sat_of (Tr.sat_bind.mp q) fun o qo => ?_
    cases o with
    | nx δ' => exact forF_ok ds δ' qo
    | ct δ' => exact forF_ok ds δ' qo
    | bk δ' => exact qo
    | rt r => exact qo
theorem s_for (h : PS X s (tFor (dTI X.K G W true (wI X.K fi)) (dGT X.K G ts (wG fg)) (dTS X.K G W (wS X.K f)))) : S_ X G W s (sForF fi fg f) := DS.imp (ds_for h) fun E δ q => Tr.sat_of (Tr.sat_bind.mp q) fun items qi => forF_ok items δ qi
theorem s_while (h : PS X s (tWhile (dTT X.K G W (wT X.K ft)) (dTS X.K G W (wS X.K f)))) : S_ X G W s (sWhF ft f) := DS.imp (ds_while h) fun E δ q => by
  refine ⟨fun m δ => (whF ft f m δ).sat (Fl.at E) (fun x => E.ex (toX X.K x)), ⟨fuel, q⟩, fun m δ hm => ?_⟩
  cases m with
  | zero => exact hm.elim
  | succ m =>
    refine Tr.sat_of (Tr.sat_bind.mp hm) fun c qc => ?_
    cases c with
    | false => exact qc
    | true =>
      rw [if_pos rfl]
      refine Tr.sat_of (Tr.sat_bind.mp qc) fun o qo => ?_
      cases o with
      | nx δ' => exact ⟨m, Nat.lt_succ_self _, qo⟩
      | ct δ' => exact ⟨m, Nat.lt_succ_self _, qo⟩
      | bk δ' => exact qo
      | rt r => exact qo
theorem s_raise0 {x : Str} (hc : X.calm = true) (tk : Takes X W) (he : PMk X e (fun _ H Q => Q (.ref (He.ga X.K x)) none H)) : S_ X G W (.Raise (some e) none pos) (sRaise0F x) := DS.imp (ds_raise0 hc tk he) fun E δ q => q
/-! ### x = [.. for ..] on one line -/
section
variable {scope : Scope} {own : List (Str × Nat)} {elt : Expr} {y : Str} {py spos : Pos}
theorem s_setLc {i : Nat} (hc : X.calm = true) (hN : X.N.Nodup) (hy : X.N[i]? = some y) (hyl : X.env.scope.names.lookup y = some .local)
    (hsw : swapsWith (.ListComp elt [⟨tg, iter, [], 0⟩] scope pos) (some (.Name y py)) spos.line X.env = pure true) (hi : I_ X G W st tg iter fi) (ok : BlkOk X.N X.env.scope scope own)
    (hg : ∀ (s : Shared) (H : Hp) (C : Addr) (cl : List (Str × Addr)) (fp : List Addr), G_ (X.blk s H scope (compEnvC scope cl C X.env) fp) G ts tg fg)
    (he : ∀ (s : Shared) (H : Hp) (C : Addr) (cl : List (Str × Addr)) (fp : List Addr), E_ (X.blk s H scope (compEnvC scope cl C X.env) fp) G wTrue elt fe)
    (hts : ∀ t ∈ ts, t ∈ own.map (·.2) := by decide) (hs : ∀ x, foldedSetIterable iter X.env x = pure x := by intro _; rfl) : S_ X G W (.Assign [.Name y py] (.ListComp elt [⟨tg, iter, [], 0⟩] scope pos) spos) (sSetF i (fLc fi fg tYes fe (own.map (·.2)))) :=
  DS.imp (ds_setLc hc hN hy hyl hsw hi ok hg he hts hs) fun E δ q => by
    have q1 := set_imp q
    exact lc_imp (K := X.K) (P := fun r => ∃ v, r.sv = some v ∧ E.nx (δ.set i (some v))) q1
theorem s_setLcIf {i : Nat} (hc : X.calm = true) (hN : X.N.Nodup) (hy : X.N[i]? = some y) (hyl : X.env.scope.names.lookup y = some .local)
    (hsw : swapsWith (.ListComp elt [⟨tg, iter, [c], 0⟩] scope pos) (some (.Name y py)) spos.line X.env = pure true) (hi : I_ X G W st tg iter fi) (ok : BlkOk X.N X.env.scope scope own)
    (hg : ∀ (s : Shared) (H : Hp) (C : Addr) (cl : List (Str × Addr)) (fp : List Addr), G_ (X.blk s H scope (compEnvC scope cl C X.env) fp) G ts tg fg)
    (ht : ∀ (s : Shared) (H : Hp) (C : Addr) (cl : List (Str × Addr)) (fp : List Addr), T_ (X.blk s H scope (compEnvC scope cl C X.env) fp) G wTrue c ft)
    (he : ∀ (s : Shared) (H : Hp) (C : Addr) (cl : List (Str × Addr)) (fp : List Addr), E_ (X.blk s H scope (compEnvC scope cl C X.env) fp) G wTrue elt fe)
    (hts : ∀ t ∈ ts, t ∈ own.map (·.2) := by decide) (hs : ∀ x, foldedSetIterable iter X.env x = pure x := by intro _; rfl) : S_ X G W (.Assign [.Name y py] (.ListComp elt [⟨tg, iter, [c], 0⟩] scope pos) spos) (sSetF i (fLc fi fg ft fe (own.map (·.2)))) :=
  DS.imp (ds_setLcIf hc hN hy hyl hsw hi ok hg ht he hts hs) fun E δ q => by
    have q1 := set_imp q
    exact lc_imp (K := X.K) (P := fun r => ∃ v, r.sv = some v ∧ E.nx (δ.set i (some v))) q1
end
/-! ### defs, calls -/
abbrev FD := List R → Tr R
/-- what a def of that body gives -/
def fnF (N : List Str) (b : FS) : FD := fun rs => (b (startD N rs)).bind fun o => match o with
  | .nx _ => .ok (.im .none)
  | .rt r => gd r.given (.ok r)
  | _ => .no
/-- a def's promise -/
def SF (K : PySem.W.Frag) (F : FD) : DSpec := fun rs P PX => (F rs).sat P fun x => PX (toX K x)
theorem sem_F {N : List Str} {b : FS} {rs : List R} {P : R → Prop} {PX : DX → Prop} (h : SF K (fnF N b) rs P PX) : wS K b (fnEnds P PX) (startD N rs) := Tr.sat_of (Tr.sat_bind.mp h) fun o qo => by
  cases o with
  | nx δ => exact qo
  | rt r => exact gd_sat qo
  | bk δ => exact qo.elim
  | ct δ => exact qo.elim
def fCallF (n : Nat) (F : FD) (fa : FA) : FE := fun δ => (fa δ).bind fun rs => gd (rs.all plainR && decide (rs.length = n)) (F rs)
theorem callF_imp {n : Nat} {F : FD} {δ : DEnv} {P : R → Prop} {PX : DX → Prop} (q : wE K (fCallF n F faa) δ P PX) : wCallF n (SF K F) (wA K faa) δ P PX := Tr.sat_of (Tr.sat_bind.mp q) fun rs qr => by
  obtain ⟨h1, h2⟩ := gd_sat qr
  rw [Bool.and_eq_true] at h1
  exact ⟨h1.1, of_decide_eq_true h1.2, Tr.sat_of h2 fun r p _ => p⟩
/-- the promise of a def that lets nothing out -/
def SC (K : PySem.W.Frag) (F : FD) : DSpec := fun rs P _ => (F rs).sat P fun _ => False
def fCallC (n : Nat) (F : FD) (fa : FA) : FE := fun δ => (fa δ).bind fun rs => gd (rs.all plainR && decide (rs.length = n)) (calm (F rs))
theorem callC_imp {n : Nat} {F : FD} {δ : DEnv} {P : R → Prop} {PX : DX → Prop} (q : wE K (fCallC n F faa) δ P PX) : wCallF n (SC K F) (wA K faa) δ P PX := Tr.sat_of (Tr.sat_bind.mp q) fun rs qr => by
  obtain ⟨h1, h2⟩ := gd_sat qr
  rw [Bool.and_eq_true] at h1
  exact ⟨h1.1, of_decide_eq_true h1.2, Tr.sat_of (calm_sat h2) fun r p _ => p⟩
theorem e_c {x : Str} {n k j : Nat} {F : FD} (c : C8.Cal X.prog X.w X.K X.mg X.base k x (dSp X.K n (SC X.K F)) []) (hr : Room j X.A) (hk : k ≤ j) (hg : Gl X x) (ha : A_ X G W (e :: es) faa)
    (hdb : (x == ("__debug__" : Str)) = false := by decide) (he : starEach (e :: es) X.env = (false, eval e X.env) :: starEach es X.env := by rfl) (hpl : (backTo pos (starEach es X.env)).any (·.1) = false := by rfl) : E_ X G W (.Call (.Name x p) (e :: es) [] pos) (fCallC n F faa) :=
  DE.imp (de_c c (fun _ _ _ _ h => h) hr hk hg ha hdb he hpl) fun δ P PX q => callC_imp q
theorem e_cX {x : Str} {n k j : Nat} {F : FD} (c : CalX X.prog X.w X.K X.mg X.base k x (dSp X.K n (SF X.K F))) (tk : Takes X W) (hr : Room j X.A) (hk : k ≤ j) (hg : Gl X x) (ha : A_ X G W (e :: es) faa)
    (hdb : (x == ("__debug__" : Str)) = false := by decide) (he : starEach (e :: es) X.env = (false, eval e X.env) :: starEach es X.env := by rfl) (hpl : (backTo pos (starEach es X.env)).any (·.1) = false := by rfl) : E_ X G W (.Call (.Name x p) (e :: es) [] pos) (fCallF n F faa) :=
  DE.imp (de_cX c tk hr hk hg ha hdb he hpl) fun δ P PX q => callF_imp q
end
/-- the drawer hands out -/
def F_take : FD := fun rs => match rs with
  | [.drw, .im (.int m)] => .draw m fun r => .ok (.im (.int r))
  | _ => .no
end FW
set_option Elab.async false
set_option linter.all false
set_option maxRecDepth 100000
set_option maxHeartbeats 4000000
/-! an own exception class over an own class over ValueError, whose __init__ says super().__init__(f"..{code}") and keeps code -/
namespace DX
open PySem PySem.W PySem.Calls PyProof.Rows PySem.HandSPX
def iA (p1 p2 : Pos) : Arguments := { posonlyargs := [], args := [{ arg := "self", annotation := none, pos := p1 }, { arg := "code", annotation := none, pos := p2 }], vararg := none, kwonlyargs := [], kw_defaults := [], kwarg := none, defaults := [] }
def iMsg (q5 q6 q7 q8 : Pos) : Expr := .JoinedStr [.Constant (.str "refused: ") 0 q5, .FormattedValue (.Name "code" q6) (-1) none q7] q8
def iB (q1 q2 q3 q4 q5 q6 q7 q8 r1 r2 r3 r4 : Pos) : List Stmt := [.Expr (.Call (.Attribute (.Call (.Name "super" q1) [] [] q2) "__init__" q3) [iMsg q5 q6 q7 q8] [] q4) q4, .Assign [.Attribute (.Name "self" r1) "code" r2] (.Name "code" r3) r4]
def iS : Scope := { kind := .function, names := [(PySem.Str.ofString "self", .local), (PySem.Str.ofString "code", .local), (PySem.Str.ofString "__class__", .free), (PySem.Str.ofString "super", .globalImplicit)], isGenerator := false, isCoroutine := false, more := [] }
/-- what the written part says of the class, at C, and of its __init__, at fI -/
structure IeTxt (prog : Program) (K : Frag) (mg : Str → Option Value) (x q0 : Str) (C fI : Addr) : Prop where
  gC : mg x = some (.ref C)
  cls : ∃ nm q N bs bm sn sub ab col dd k0 k1 k2 k3 k5, K.lookup C = some (excClassObj nm q C N bs bm true sn sub ab col dd k0 k1 k2 k3 k5 "ValueError.__new__") ∧ refsVE bm = true
  sa : findIn K (.ref C) "__setattr__" = some (some (.builtin "object.__setattr__"))
  ga : findIn K (.ref C) "__getattribute__" = some (some (.builtin "BaseException.__getattribute__"))
  gg : findIn K (.ref C) "__getattr__" = some none
  noN : findIn K (.ref C) "code" = some none
  iC : findIn K (.ref C) "__init__" = some (some (.ref fI))
  tC : typeIn K (.ref fI) = some (.type "function")
  kC : keepIn K (.ref C) = true
  exC : subIn K (.ref C) (.type "BaseException") = some true
  veC : subIn K (.ref C) (.type "ValueError") = some true
  tyC : typeIn K (.ref C) = some (.type "type")
  hdC : hasDictIn K C = true
  own : mroIn K C (.ref C) = some true
  along : ks_superIn K C C "__init__" = some (some (.builtin "ValueError.__init__"))
  opq : nsIn K cStatics "thirdparty.any" = some none
  sup : mg "super" = none
  top : (prog.main.scope.names.lookup ("super" : Str)).isSome = false
  fn : ∃ (oc : Value) (od : Option Addr) (doc pm : Value) (an : Option Addr) (cda : Addr) (ct : Value) (cc : Addr) (osl : Array (Option Value)) (p1 p2 q1 q2 q3 q4 q5 q6 q7 q8 r1 r2 r3 r4 : Pos),
    K.lookup fI = some ⟨oc, od, .func (fnX "__init__" q0 (iA p1 p2) (iB q1 q2 q3 q4 q5 q6 q7 q8 r1 r2 r3 r4) iS [("__class__", cc)] .none .none doc pm an (.ref cda) ct), osl⟩ ∧ codeIn K (.ref cda) q0 = true ∧ (q3.endLine == q4.line) = true ∧
    (∃ (ccl : Value) (cdd : Option Addr) (vs : Array Value) (ccs : Array (Option Value)) (file : Str) (tf : Tok), K.lookup cda = some ⟨ccl, cdd, .fields vs, ccs⟩ ∧ vs[2]? = some (.str file tf) ∧ ((prog.main.file : Str) == file) = true) ∧
    ∃ (cl : Value) (cld : Option Addr) (csl : Array (Option Value)), K.lookup cc = some ⟨cl, cld, .cell (some (.ref C)), csl⟩
/-- what __init__ leaves of a fresh exception at x -/
structure InitEnd (h h' : Heap) (x C dx t1 : Addr) (v : Value) : Prop where
  keep : ∀ b o, b ≠ x → h.get? b = some o → h'.get? b = some o
  obj : h'.get? x = some { cls := .ref C, dict := some dx, data := .fields #[.ref t1, .none, .none, .none, .bool false, .none] }
  dbig : h.objs.size ≤ dx
  dne : dx ≠ x
  ns : h'.Ns1 dx (fun y => if y = "code" then some v else none)
structure OwnMade (h h' : Heap) (e C d : Addr) (v : Value) : Prop where
  keep : ∀ b o, h.get? b = some o → h'.get? b = some o
  new : h.objs.size ≤ e
  obj : ∃ oe vs, h'.get? e = some oe ∧ oe.cls = .ref C ∧ oe.dict = some d ∧ oe.data = .fields vs ∧ vs[1]? = some .none
  dbig : h.objs.size ≤ d
  dne : d ≠ e
  ns : h'.Ns1 d (fun y => if y = "code" then some v else none)
theorem one_size (v : Value) : [v].length ≤ sizeLine := by
  rw [sizeLine_eq]
  exact (by decide : 1 ≤ 16777216)
section
variable {prog : Program} {w : World} {A : Around} {E : Value → Shared → Prop} {h : Heap} {g : Array GenState} {d : Drawn} {t : Nat} {os : OsState}
variable {nm q : Str} {C N : Addr} {bs bm : List Value} {hdct : Bool} {sn : List Str} {sub : List Value} {ab : Bool} {col : Option Bool} {dd : Option Addr} {k0 k1 k2 k3 k5 : Option Value}
/-- super().__init__(..) called -/
theorem call_mw {u e t0 : Addr} {rest : List Value} {Q : Value → Shared → Prop}
    (hC : h.get? C = some (excClassObj nm q C N bs bm hdct sn sub ab col dd k0 k1 k2 k3 k5 "ValueError.__new__")) (he : h.get? e = some (HandSPX.excO C t0)) (hu : h.get? u = some (kxs_mw "ValueError.__init__" e)) (hrest : rest.length ≤ sizeLine)
    (hq : ∀ h' t1, (∀ b o, b ≠ e → h.get? b = some o → h'.get? b = some o) → h'.get? e = some (HandSPX.excO C t1) → Q .none ⟨h', g, d, t, os⟩) :
    wpAny (model prog w) A (call (.ref u) rest) Q E ⟨h, g, d, t, os⟩ := by
  refine wpAny_call (codeAny_of_tree ?_)
  show wpAny _ A.in1 (callAny (.ref u) ⟨rest, []⟩) _ _ _
  simp only [callAny]
  refine wpAny_bind (wpAny_load hu ?_)
  simp only [kxs_mw, show (Value.type "method-wrapper" == Value.type "method" || Value.type "method-wrapper" == Value.type "builtin_function_or_method" || Value.type "method-wrapper" == Value.type "method-wrapper") = true by decide, if_true]
  refine W.KFB.if_so (by decide) ?_
  refine wpAny_bind (PySem.ESX.check_bound F.excBase_ValueError hC he rfl ?_)
  refine wpAny_bind (wpAny_pure (wpAny_pure ?_))
  refine ⟨Code.quiet_builtin _ (by decide +kernel), codeAny_builtin F.excBase_ValueError.initEntry ?_⟩
  rw [Around.under_plainId F.excBase_ValueError.init.plain _]
  wp_walk
  refine hq _ h.objs.size (fun b o hb ho => ?_) ?_
  · rw [Heap.get?_update_other _ _ (Ne.symm hb)]
    exact Heap.get?_push_of_some _ ho
  · rw [Heap.get?_update_self _ (Heap.get?_push_of_some _ he) rfl]
    rfl
end
end DX
namespace DX
open PySem PySem.W PySem.Calls PyProof.Rows PySem.HandSPX
theorem ldX {M : Model} {s : Shared} {fd : FuncData} {L a : Addr} {m : Str → Option Value} {x : Str} {pos : Pos} {v : Value} {Q : Value → Shared → Prop} {A : Around} {E : Value → Shared → Prop} (hn : s.heap.Ns L m) (hv : m x = some v) (h : Q v s)
    (hk : fd.scope.kind = .function) (hl : (callEnv fd L a).kindOf x = some .local) (hd : (x == ("__debug__" : Str)) = false := by decide) :
    wpAny M A (eval (.Name x pos) (callEnv fd L a)) Q E s := wpAny_Name (wpAny_loadName_local hk hl hn hv h) hd
section
variable {prog : Program} {w : World} {A : Around} {E : Value → Shared → Prop} {R : Result → Shared → Prop} {s : Shared} {K : Frag} {mg : Str → Option Value} {C fI : Addr} {xn q0 : Str}
theorem mc_eval {o : Expr} {name : Str} {apos pos : Pos} {env : Env} {e : Expr} (hl : (apos.endLine == pos.line) = true) (ha : starEach [e] env = [(false, eval e env)]) : eval (.Call (.Attribute o name apos) [e] [] pos) env = (do
      let ov ← attributeBase o name env (eval o env)
      standAt apos.atName
      let (f, first) ← holding [ov] (getMethod ov name (do return (← importBound o env).getD true))
      callWith pos f first (backTo pos (starEach [e] env)) []) := by
  rw [arm_eval_Call]
  have hform : methodCallForm ([e].length + ([] : List Keyword).length) (backTo pos (starEach [e] env)) (backToKw pos (keywordEach [] env)) = true := by
    rw [ha]; rfl
  unfold methodCall
  rw [hform]
  unfold methodCallPos calleeOf
  rw [hl]
  rfl
theorem ie_init (T : IeTxt prog K mg xn q0 C fI) {x t0 : Addr} {z : Str} {tk0 : Tok} (X : K.In s.heap) (hg : s.heap.Ns mainGlobals mg) (hb : ∃ mb, s.heap.Ns builtinsNs mb ∧ ∀ y : Str, y ≠ "__name__" → mb y = bootBuiltins y) (hlim : s.heap.NoLimit)
    (hx : s.heap.get? x = some (excO C t0)) (hnx : K.lookup x = none) (hxC : x ≠ C) (hz : z.length ≤ 1000) (hroom : A.depth < recursionLimit)
    (hq : ∀ h' tk dx t1, InitEnd s.heap h' x C dx t1 (.str z tk0) → R (.ok (.ret .none)) { s with heap := h', toks := tk }) :
    codeAny (model prog w) A (.call (.ref fI) ⟨[.ref x, .str z tk0], []⟩) R s := by
  obtain ⟨oc, od, doc, pm, an, cda, ct, cc, osl, p1, p2, q1, q2, q3, q4, q5, q6, q7, q8, r1, r2, r3, r4, ho, hcd, hline, ⟨ccl, cdd, vs, ccs, file, tf, hcode, hvs, hfile⟩, cl, cld, csl, hcell⟩ := T.fn
  obtain ⟨nm, q, N, bs, bm, sn, sub, ab, col, dd, k0, k1, k2, k3, k5, hC, hbm⟩ := T.cls
  have hcl : clsIn K C = some { name := nm, bases := bs, mro := .ref C :: bm, ns := N, qualname := q, hasDict := true, slotNames := sn, subclasses := sub, abstract := ab, collection := col, hasDel := false } := by unfold clsIn; rw [hC] <;> rfl
  obtain ⟨mb, hb1, hb2⟩ := hb
  let fd : FuncData := fnX "__init__" q0 (iA p1 p2) (iB q1 q2 q3 q4 q5 q6 q7 q8 r1 r2 r3 r4) iS [("__class__", cc)] .none .none doc pm an (.ref cda) ct
  refine ks_codeAny_call_defAt (fd := fd) (body := iB q1 q2 q3 q4 q5 q6 q7 q8 r1 r2 r3 r4) (binds := [("self", .ref x), ("code", .str z tk0)]) hroom (X _ _ ho) rfl hlim (codeRec_of X hcd) rfl (BindsTo.of_eq (by first | rfl | with_unfolding_all rfl)) (fun y hy => (by decide : ∀ y ∈ iS.names, y.2 ≠ .cell) y hy) (fun y hy => by simp only [List.mem_cons, List.not_mem_nil, or_false] at hy; rcases hy with rfl | rfl <;> rfl) (fun h₁ hn k => ?_) rfl rfl rfl
  have hxL : s.heap.objs.size ≠ x := Nat.ne_of_gt (Heap.lt_size hx)
  have X₁ : K.In h₁ := X.keeps k
  have hx₁ := k _ _ hx
  have hCh := X₁ _ _ hC
  have e1 : (fun x_1 => ([((("self" : Str)), Value.ref x), (("code" : Str), Value.str z tk0)] : List (Str × Value)).reverse.lookup x_1) "self" = some (.ref x) := by first | rfl | decide +kernel | kernel_rfl
  have e2 : (fun x_1 => ([((("self" : Str)), Value.ref x), (("code" : Str), Value.str z tk0)] : List (Str × Value)).reverse.lookup x_1) "code" = some (.str z tk0) := by first | rfl | decide +kernel | kernel_rfl
  refine ks_wpAt_execs_cons (ks_wpAt_Expr_any (ks_wpAt_MethodCall ?_ (mc_eval hline (by rfl))))
  refine ks_wpAt_super_base (by first | rfl | decide +kernel) (by first | rfl | decide +kernel) rfl rfl (X₁ _ _ ho) rfl (ar := { arg := "self", annotation := none, pos := p1 }) rfl rfl (X₁ _ _ hcode) rfl hvs hfile T.top ?_
  refine ks_loadName_global rfl (by first | rfl | decide +kernel) (loadGlobal_builtin (hg.keeps k) T.sup (hb1.keeps k) ((hb2 _ (by decide)).trans (by decide +kernel)) ⟨rfl, ?_⟩)
  refine wpAny_loadName_free rfl (by first | rfl | decide +kernel) rfl ⟨_, X₁ _ _ hcell, rfl⟩ ?_
  refine wpAny_loadName_local rfl (by first | rfl | decide +kernel) hn e1 ?_
  refine ks_wpAny_isType_cls hCh rfl ⟨rfl, ?_⟩
  refine ks_wpAny_call_super hCh rfl hx₁ rfl (fun c e => by cases e) (looks_mroIn X₁ T.own) (fun h₂ e k₂ => ?_)
  have X₂ := X₁.keeps k₂
  have hx₂ := k₂ _ _ hx₁
  have I₂ : InstAt h₂ x (excO C t0) C none := ⟨hx₂, rfl, rfl, trivial⟩
  refine kxs_getMethod kxs_ValueError e (looks_opaque X₂ T.opq) (l₀ := .ref C :: bm) ?_ rfl X₂ ?_ (I₂.type.andThen (looks_subIn X₂ T.veC)) hxC rfl ?_
  · exact fun A Q E s k q => wpAny_bind ((looks_clsIn X₂ hcl) A _ E s k (wpAny_pure q))
  · have := T.along
    unfold ks_superIn at this
    rw [hcl] at this
    exact this
  have k₃ : ∀ b o, h₂.get? b = some o → (h₂.push (kxs_mw "ValueError.__init__" x)).get? b = some o := fun b o e => Heap.get?_push_of_some _ e
  have hu : (h₂.push (kxs_mw "ValueError.__init__" x)).get? h₂.objs.size = some (kxs_mw "ValueError.__init__" x) := Heap.get?_push_at rfl rfl
  have n₃ := (hn.keeps k₂).keeps k₃
  refine kxs_callWith (i := "ValueError.__init__") (x := x) (by rfl) ?_
  refine evalArgs_plain (spliced_cons ?_)
  rw [if_neg Bool.false_ne_true]
  have e2' : ∀ {Q : Value → Shared → Prop} {E : Value → Shared → Prop} {tk : Nat}, Q (.str z tk0) ⟨h₂.push (kxs_mw "ValueError.__init__" x), s.gens, s.drawn, tk, s.os⟩ → wpAny (model prog w) (A.deeper (callEnv fd s.heap.objs.size fI)) (eval (.Name "code" q6) (callEnv fd s.heap.objs.size fI)) Q E ⟨h₂.push (kxs_mw "ValueError.__init__" x), s.gens, s.drawn, tk, s.os⟩ := fun {Q E tk} hQ => ldX (s := ⟨h₂.push (kxs_mw "ValueError.__init__" x), s.gens, s.drawn, tk, s.os⟩) n₃ e2 hQ rfl (by first | rfl | decide +kernel)
  have hz1 : z.length ≤ sizeLine := by rw [sizeLine_eq]; omega
  have hz2 : ((Str.empty ++ ("refused: " : Str)) ++ z).length ≤ sizeLine := by
    rw [sizeLine_eq]
    show ((Str.empty ++ ("refused: " : Str)).cps ++ z.cps).size ≤ _
    rw [Array.size_append]
    have a1 : (Str.empty ++ ("refused: " : Str)).cps.size = 9 := by rfl
    have a2 : z.cps.size ≤ 1000 := hz
    omega
  refine wpAny_JoinedStr (wpAny_Constant_str ⟨_, _, rfl, by decide +kernel, ?_⟩)
  refine wpAny_FormattedValue_plain (e2' ?_)
  have fin : ∀ (tk tk' : Nat) (y : Value), ∀ msg : Value, wpAny (model prog w) (A.deeper (callEnv fd s.heap.objs.size fI)) (call (.ref h₂.objs.size) [msg]) (fun _ s' => PySem.wpAt (model prog w) (A.deeper (callEnv fd s.heap.objs.size fI)) (Code.func (iB q1 q2 q3 q4 q5 q6 q7 q8 r1 r2 r3 r4) (callEnv fd s.heap.objs.size fI))
      (execs [Stmt.Assign [(Expr.Name (Str.ofString "self") r1).Attribute (Str.ofString "code") r2] (Expr.Name (Str.ofString "code") r3) r4] (callEnv fd s.heap.objs.size fI))
      (fun f s' => R (.ok (.ret (match f with | .ret v => v | _ => .none))) s')
      (fun e s' => wpAny (model prog w) (A.deeper (callEnv fd s.heap.objs.size fI)) (leaving (callEnv fd s.heap.objs.size fI) e) (fun _ s'' => R (.error e) s'') (fun e' s'' => R (.error e') s'') s') s')
      (fun e s' => wpAny (model prog w) (A.deeper (callEnv fd s.heap.objs.size fI)) (leaving (callEnv fd s.heap.objs.size fI) e) (fun _ s'' => R (.error e) s'') (fun e' s'' => R (.error e') s'') s') ⟨h₂.push (kxs_mw "ValueError.__init__" x), s.gens, s.drawn, tk, s.os⟩ := by
    intro tk tk' y msg
    refine call_mw (k₃ _ _ (k₂ _ _ hCh)) (k₃ _ _ hx₂) hu (one_size msg) fun h₄ t1 k₄ hx₄ => ?_
    have X₄ : K.In h₄ := fun a o eK => k₄ a o (fun zz => by rw [zz, hnx] at eK; cases eK) (k₃ _ _ (X₂ _ _ eK))
    have n₄ : h₄.Ns s.heap.objs.size (fun x_1 => ([(("self" : Str), Value.ref x), (("code" : Str), Value.str z tk0)] : List (Str × Value)).reverse.lookup x_1) := by
      obtain ⟨oL, es, ep, hL, r⟩ := n₃
      exact ⟨oL, es, ep, k₄ _ _ hxL hL, r⟩
    refine ks_wpAt_execs_cons (wpAt_of_wpAny (plainObj_wpAny_Assign_Attribute ?_))
    refine ldX n₄ e2 (ldX n₄ e1 ?_ rfl (by first | rfl | decide +kernel)) rfl (by first | rfl | decide +kernel)
    refine set_plain X₄ (ox := excO C t1) (od := none) ⟨hx₄, rfl, rfl, trivial⟩ T.sa ?_
    refine exc_osa X₄ hx₄ hcl (show refsVE (.ref C :: bm) = true from hbm) rfl T.noN (fun h₅ tk₅ dx k₅ dn dne hx₅ hn₅ => ?_)
    show PySem.wpAt _ _ _ (execs _ _) _ _ _
    refine wpAt_of_wpAny (wpAny_execs_nil (hq h₅ tk₅ dx t1 ⟨fun b o hb e => k₅ b o hb (k₄ b o hb (k₃ b o (k₂ b o (k b o e)))), hx₅, ?_, dne, hn₅⟩))
    have a1 : s.heap.objs.size < h₄.objs.size := n₄.lt
    have dn' : h₄.objs.size ≤ dx := dn
    omega
  refine wpAny_formatField_str ⟨_, _, rfl, ?_, ?_⟩ ⟨_, _, rfl, ?_, ?_⟩ hz1
  · exact hz2
  · exact ⟨hz2, spliced_nil ⟨hu, fin _ 0 .none _⟩⟩
  · exact hz2
  · exact ⟨hz2, spliced_nil ⟨hu, fin _ 0 .none _⟩⟩
theorem ie_made (T : IeTxt prog K mg xn q0 C fI) {z : Str} {tk0 : Tok} (X : K.In s.heap) (hg : s.heap.Ns mainGlobals mg) (hb : ∃ mb, s.heap.Ns builtinsNs mb ∧ ∀ y : Str, y ≠ "__name__" → mb y = bootBuiltins y) (hlim : s.heap.NoLimit) (hz : z.length ≤ 1000) (hroom : A.depth + 1 < recursionLimit)
    (hq : ∀ h' tk e d, OwnMade s.heap h' e C d (.str z tk0) → R (.ok (.ret (.ref e))) { s with heap := h', toks := tk }) :
    codeAny (model prog w) A (.call (.ref C) ⟨[.str z tk0], []⟩) R s := by
  obtain ⟨nm, q, N, bs, bm, sn, sub, ab, col, dd, k0, k1, k2, k3, k5, hC, hbm⟩ := T.cls
  obtain ⟨hp, g, dr, tk, os⟩ := s
  obtain ⟨mb, hb1, hb2⟩ := hb
  have k : ∀ b o, hp.get? b = some o → ((hp.push (kdv_tup [.str z tk0])).push (excO C hp.objs.size)).get? b = some o := fun b o e => Heap.get?_push_of_some _ (Heap.get?_push_of_some _ e)
  have hget : ((hp.push (kdv_tup [.str z tk0])).push (excO C hp.objs.size)).get? (hp.objs.size + 1) = some (excO C hp.objs.size) := by heap_get
  have hnx : K.lookup (hp.objs.size + 1) = none := by
    cases e : K.lookup (hp.objs.size + 1) with
    | none => rfl
    | some o =>
      have z : hp.get? (hp.objs.size + 1) = some o := X _ _ e
      exact absurd (Nat.lt_of_succ_lt (Heap.lt_size z)) (Nat.lt_irrefl _)
  have hxC : hp.objs.size + 1 ≠ C := fun e => by rw [e, hC] at hnx; cases hnx
  refine call_own F.excBase_ValueError (fun X => refsVE_contains X bm hbm) (X _ _ hC) (looks_findIn X T.iC) (fun self => bind_fn X self T.tC) (one_size _) ?_
  refine ie_init (s := ⟨(hp.push (kdv_tup [.str z tk0])).push (excO C hp.objs.size), g, dr, tk, os⟩) T (X.keeps k) (hg.keeps k) ⟨mb, hb1.keeps k, hb2⟩ (hlim.keeps k) hget hnx hxC hz ?_ fun h' tk' dx t1 ⟨k', hx, dn, dne, hns⟩ => ?_
  · show A.depth + 1 < recursionLimit
    exact hroom
  · have old : ∀ b o, hp.get? b = some o → h'.get? b = some o := fun b o e => k' b o (Nat.ne_of_lt (Nat.lt_succ_of_lt (Heap.lt_size e))) (k b o e)
    have zz : hp.objs.size + 1 + 1 ≤ dx := by
      first
        | (simpa only [Heap.size_push] using dn)
        | exact dn
        | (have q := dn; rw [Heap.size_push, Heap.size_push] at q; exact q)
    exact ⟨rfl, hq h' tk' (hp.objs.size + 1) dx ⟨old, Nat.le_succ _, ⟨_, _, hx, rfl, rfl, rfl, rfl⟩, Nat.le_trans (Nat.le_trans (Nat.le_succ _) (Nat.le_succ _)) zz, dne, hns⟩⟩
end
end DX
namespace DX
open PySem PySem.Spec PyProof.Rows L2
theorem relO_code {v : V} {v' : Value} (r : RelV v v') (f : Str) : RelO (List.lookup f [(("code" : Str), v)]) (if f = "code" then some v' else none) := by
  by_cases hw : f = "code"
  · subst hw
    rw [if_pos rfl]
    have q : List.lookup ("code" : Str) [(("code" : Str), v)] = some v := by simp [List.lookup]
    rw [q]
    exact r
  · rw [if_neg hw]
    have qw : (f == ("code" : Str)) = false := by simpa using hw
    have q2 : List.lookup f [(("code" : Str), v)] = none := by simp [List.lookup, qw]
    rw [q2]
    trivial
section
variable {X : Cx} {C fI : Addr} {xn q0 : Str}
/-- x(e), e a text -/
def tMkIe (C : Addr) (ta : TA) : L2.St → Hp → XK → Prop := fun σ H Q => ta σ H fun vs H1 => ∃ z : Str, vs = [.str z] ∧ z.length ≤ 1000 ∧ ∀ d, H1 d = none → Q (.ref C) (some d) (upd H1 d (.xd [(("code" : Str), .str z)]))
theorem pmk_ie {a : Expr} {ta : TA} {p pos : Pos} {k : Nat} (T : IeTxt X.prog X.K X.mg xn q0 C fI) (hr : Room k X.A) (ha : PA X [a] ta) (hg : Gl X xn) (hdb : (xn == ("__debug__" : Str)) = false)
    (he : starEach (a :: []) X.env = (false, eval a X.env) :: starEach [] X.env := by rfl) (hpl : (backTo pos (starEach [] X.env)).any (·.1) = false := by rfl) :
    PMk X (.Call (.Name xn p) [a] [] pos) (tMkIe C ta) := by
  intro pins s σ H Q I h
  refine wpAny_Call_Name_kw (ld_glob I hg T.gC ?_ hdb)
  refine PySem.W.callWith_K (h₀ := X.base) I.ok.mod.kin T.kC (thn (ha.run pos pins s σ H _ I h) fun us s1 hh => ?_) he hpl
  obtain ⟨vs, H1, I1, r1, z, ev, hz, q1⟩ := hh
  subst ev
  refine ⟨I1.kIn, ?_⟩
  cases r1 with
  | cons rv rn =>
    rename_i v' us'
    cases rn
    obtain ⟨tk0, rfl⟩ := id rv
    show wpAny _ _ (call (.ref C) [Value.str z tk0]) _ _ _
    have hlim := I1.nolimit
    have hgl : s1.heap.Ns mainGlobals X.mg := I1.mod.glob.keeps I1.bk
    have hbl : ∃ mb, s1.heap.Ns builtinsNs mb ∧ ∀ y : Str, y ≠ "__name__" → mb y = bootBuiltins y := by
      obtain ⟨mb, h1, h2⟩ := I1.mod.blt
      exact ⟨mb, h1.keeps I1.bk, h2⟩
    obtain ⟨hp, g, dr, tk, os⟩ := s1
    refine wpAny_call (ie_made T I1.kIn hgl (by obtain ⟨mb, h1, h2⟩ := hbl; exact ⟨mb, h1, fun y hy => h2 _ hy⟩) hlim hz (by have := hr.dp; omega) fun h' tk' e d M => ?_)
    show MkP X pins σ Q (.ref e) ⟨h', g, dr, tk', os⟩
    obtain ⟨oe, fv, hoe, hc, hd, hdat, h1⟩ := M.obj
    have hns := M.ns
    obtain ⟨G', g1, g2⟩ := restrict h' fun b => decide (b ≠ e)
    have gk : ∀ b, b ≠ e → G'.get? b = h'.get? b := fun b hb => g1 b (decide_eq_true hb)
    have ge : G'.get? e = none := g2 e (by simp)
    have old : ∀ b o, hp.get? b = some o → G'.get? b = some o := fun b o q => (gk b (Nat.ne_of_lt (Nat.lt_of_lt_of_le (Heap.lt_size q) M.new))).trans (M.keep b o q)
    have ob : ObjOk X.prog X.w (upd H1 d (.xd [(("code" : Str), .str z)])) G' d (.xd [(("code" : Str), .str z)]) :=
      ⟨_, hns.at (fun o q => (gk d M.dne).trans q), fun f => relO_code (v := .str z) ⟨_, rfl⟩ f⟩
    have J : Inv X pins σ (upd H1 d (.xd [(("code" : Str), .str z)])) ⟨G', g, dr, tk', os⟩ := I1.laid (t' := tk') old M.dbig ob
    refine ⟨e, oe, fv, ⟨G', g, dr, tk', os⟩, _, .ref C, some d, rfl, J, fun b o q => ?_, ge, hoe, ⟨hc, hd⟩, hdat, h1, ?_, rfl, I1.bare, raises_own T.exC T.tyC, q1 d (I1.hok.fresh M.dbig)⟩
    · by_cases hb : b = e
      · have q' : G'.get? b = some o := q
        rw [hb, ge] at q'; cases q'
      · exact (gk b hb).symm.trans q
    · rw [upd_ne (Ne.symm M.dne)]
      exact I1.hok.fresh M.new
end
end DX
set_option Elab.async false
set_option linter.all false
set_option maxRecDepth 100000
set_option maxHeartbeats 4000000
namespace FW
open PySem PySem.Spec L2 DW
section
variable {α : Type}
def Tr.catch : Tr α → (Xn → Tr α) → Tr α
  | .ok a, _ => .ok a
  | .ex x, h => h x
  | .no, _ => .no
  | .draw m k, h => .draw m fun r => (k r).catch h
theorem Tr.sat_catch {t : Tr α} {h : Xn → Tr α} {P : α → Prop} {PX : Xn → Prop} : (t.catch h).sat P PX ↔ t.sat P fun x => (h x).sat P PX := by
  induction t with
  | ok a => exact Iff.rfl
  | ex x => exact Iff.rfl
  | no => exact Iff.rfl
  | draw m k ih => exact ⟨fun ⟨h1, h2, h⟩ => ⟨h1, h2, fun r r0 r1 => (ih r).mp (h r r0 r1)⟩, fun ⟨h1, h2, h⟩ => ⟨h1, h2, fun r r0 r1 => (ih r).mpr (h r r0 r1)⟩⟩
end
/-- what is known of the classes: (raised, caught) -/
abbrev Tab := List (Str × Bool)
def sRaise1F (x : Str) (f : FE) : FS := fun δ => (f δ).bind fun r => match r with
  | .im (.str s) => gd (decide (s.length ≤ 1000)) (.ex ⟨x, [("code", .str s)]⟩)
  | _ => .no
/-- try: b, except: return d -/
def sTryCF (tab : Tab) (b : FS) (d : D) : FS := fun δ => (b δ).catch fun x => match tab.lookup x.nm with
  | some true => .ok (.rt (.im d))
  | some false => .ex x
  | none => .no
/-- try: b, except .. as e: return e.f -/
def sTryAF (tab : Tab) (c f : Str) (b : FS) : FS := fun δ => (b δ).catch fun x => match tab.lookup x.nm with
  | some true => gd (decide (x.nm = c)) (match x.fs.lookup f with
    | some d => .ok (.rt (.im d))
    | none => .no)
  | some false => .ex x
  | none => .no
section
variable {X : Cx} {G : Gd} {W : WX} {e a : Expr} {fe : FE} {pos p np pos' rp p1 p2 : Pos} {s : Stmt} {body : List Stmt} {ws : WS} {f : FS} {x n fl : Str} {i : Nat}
theorem s_raise1 {q0 : Str} {fI : Addr} {k : Nat} (hc : X.calm = true) (T : DX.IeTxt X.prog X.K X.mg x q0 (He.ga X.K x) fI) (hr : Room k X.A) (tk : Takes X W) (ha : E_ X G W a fe) (hg : Gl X x) (hdb : (x == ("__debug__" : Str)) = false := by decide)
    (he : starEach (a :: []) X.env = (false, eval a X.env) :: starEach [] X.env := by rfl) (hpl : (backTo p (starEach [] X.env)).any (·.1) = false := by rfl) : S_ X G W (.Raise (some (.Call (.Name x np) [a] [] p)) none pos) (sRaise1F x fe) :=
  PS.imp (ps_raise hc tk (DX.pmk_ie T hr (pa_cons ha pa_nil (by exact he)) hg hdb he hpl)) fun D σ H ⟨F, δ, E, S, q, k⟩ => by
    refine ⟨F, δ, _, _, S, Tr.sat_bind.mp q, fun v F1 H1 r x1 q1 p1 => ?_, k.xok S⟩
    show ∃ z : Str, [v] = [V.str z] ∧ z.length ≤ 1000 ∧ ∀ d, H1 d = none → W (.ref (He.ga X.K x)) (some d) σ (upd H1 d (.xd [(("code" : Str), .str z)]))
    split at p1
    · rename_i z
      obtain ⟨h1, h2⟩ := gd_sat p1
      cases q1
      refine ⟨z, rfl, of_decide_eq_true h1, fun d hd => ?_⟩
      refine k.ex _ F1 _ (.ref (He.ga X.K x)) (some d) σ ((S.ext.trans x1).trans (x1.stay.own hd)) ⟨rfl, fun _ => ⟨d, [(("code" : Str), .str z)], rfl, upd_same, .cons ⟨rfl, .str z⟩ .nil⟩⟩ h2
    · exact p1.elim
/-- the table is right -/
def TabOk (K : PySem.W.Frag) (tab : Tab) (c : Str) : Prop := ∀ y b, tab.lookup y = some b → PySem.W.exmOne K (.ref (He.ga K y)) (.ref (He.ga K c)) = some b
theorem TabOk.nil {K : PySem.W.Frag} {c : Str} : TabOk K [] c := fun y b h => by cases h
theorem TabOk.cons {K : PySem.W.Frag} {tab : Tab} {c z : Str} {bz : Bool} (h1 : PySem.W.exmOne K (.ref (He.ga K z)) (.ref (He.ga K c)) = some bz) (h : TabOk K tab c) : TabOk K ((z, bz) :: tab) c := fun y b hy => by
  rw [List.lookup_cons] at hy
  by_cases e : y = z
  · subst e
    rw [beq_self_eq_true] at hy
    cases hy
    exact h1
  · have : (y == z) = false := by simpa using e
    rw [this] at hy
    exact h y b hy
theorem s_tryC {tab : Tab} {d : D} {C : Addr} {e : Expr} (hC : C = He.ga X.K x) (ht : TabOk X.K tab x) (hs : X.stack = X.env :: X.outer) (hf : X.env.frame = some X.env.locals) (hc : Names X x (.ref C)) (tk : Takes X W)
    (hb : ∀ (W' : WX) (pn : List (Addr × Obj)) (xe : Value → Shared → Prop), Takes (X.tr pn xe) W' → Ss_ (X.tr pn xe) G W' body f) (hsu : ∀ (a : Addr) (pn : List (Addr × Obj)), DSs (X.suite a pn) G wTrue [.Return (some e) rp] (wS X.K (sRetF (fC d)))) :
    S_ X G W (.Try body [.ExceptHandler (some (.Name x np)) none [.Return (some e) rp] pos'] [] [] pos) (sTryCF tab f d) :=
  DS.imp (ds_try (ws := wS X.K f) (wss := wS X.K (sRetF (fC d))) (m := fun D => PySem.W.exmOne X.K (.ref D) (.ref C)) (fun _ => rfl) hs hf hc tk (fun W' pn xe tk' => hb W' pn xe tk') hsu) fun E δ q => by
    refine Tr.sat_mono (Tr.sat_catch.mp q) (fun o qo => by cases o <;> exact qo) fun y hy => ?_
    split at hy
    · rename_i e1
      refine .inl ⟨by rw [hC]; exact ht _ _ e1, fun n => hy⟩
    · rename_i e1
      exact .inr ⟨by rw [hC]; exact ht _ _ e1, hy⟩
    · exact hy.elim
theorem lookup_rep {K : PySem.W.Frag} {F : Hp} {fl : Str} : ∀ {vs : List (Str × V)} {ds : List (Str × D)} {d : D}, Paired (fun (p : Str × V) (q : Str × D) => p.1 = q.1 ∧ RepD K F p.2 q.2) vs ds → ds.lookup fl = some d → ∃ v, vs.lookup fl = some v ∧ RepD K F v d
  | _, _, _, .nil, h => by cases h
  | _, _, d, @Paired.cons _ _ _ v0 d0 vs ds hp t, h => by
    obtain ⟨n1, v1⟩ := v0
    obtain ⟨n2, d2⟩ := d0
    obtain ⟨e1, r1⟩ := hp
    have e1' : n1 = n2 := e1
    subst e1'
    rw [List.lookup_cons] at h ⊢
    cases hb : (fl == n1) with
    | true => rw [hb] at h; cases h; exact ⟨v1, rfl, r1⟩
    | false => rw [hb] at h; exact lookup_rep t h
theorem pe_len {t : TE} (h : PE X e t) : PE X e (fun σ H Q => σ.length = X.N.length → t σ H Q) := ⟨fun pins s σ H Q I q => h.run pins s σ H Q I (q I.len)⟩
theorem s_tryA {tab : Tab} {C : Addr} {i : Nat} (hC : C = He.ga X.K x) (ht : TabOk X.K tab x) (T : XfC X.K C) (hno : PySem.W.findIn X.K (.ref C) fl = some none) (hs : X.stack = X.env :: X.outer) (hf : X.env.frame = some X.env.locals) (hN : X.N.Nodup) (hi : X.N[i]? = some n) (hln : X.env.kindOf n = some .local) (hc : Names X x (.ref C)) (tk : Takes X W)
    (hb : ∀ (W' : WX) (pn : List (Addr × Obj)) (xe : Value → Shared → Prop), Takes (X.tr pn xe) W' → Ss_ (X.tr pn xe) G W' body f) (hv : ∀ (a : Addr) (pn : List (Addr × Obj)), PE (X.suite a pn) (.Name n p1) (tVar i))
    (hbase : attributeBase (.Name n p1) fl X.env (eval (.Name n p1) X.env) = eval (.Name n p1) X.env := by rfl) :
    S_ X G W (.Try body [.ExceptHandler (some (.Name x np)) (some n) [.Return (some (.Attribute (.Name n p1) fl p2)) rp] pos'] [] [] pos) (sTryAF tab x fl f) :=
  PS.imp (ps_try_as (tb := fun W' => dTS X.K G W' (wS X.K f)) (ts := fun a cls d => tRet (tXf a cls d C fl (fun σ H Q => σ.length = X.N.length → tVar i σ H Q))) (Wout := W) hs hf hN hi hln hc tk (fun W' pn xe tk' _ => hb W' pn xe tk')
    (fun a oe cls d pn hz hfd => pss_one (ps_ret (pe_xf T hno hz hfd (pe_len (hv a _)) hbase)))) fun D σ H ⟨F, δ, E, S, q, k⟩ => by
    refine ⟨F, δ, { E with ex := fun y => (PySem.W.exmOne X.K (.ref y.C) (.ref C) = some true ∧ y.C = C ∧ ∃ d, y.fs.lookup fl = some d ∧ E.rt (.im d)) ∨ (PySem.W.exmOne X.K (.ref y.C) (.ref C) = some false ∧ E.ex y) }, S, ?_, k.nx, k.bk, k.ct, k.rt, fun x' F' H' cls d σ' xt rx px => ?_⟩
    · refine Tr.sat_mono (Tr.sat_catch.mp q) (fun o qo => by cases o <;> exact qo) fun y hy => ?_
      split at hy
      · rename_i e1
        obtain ⟨h1, h2⟩ := gd_sat hy
        refine .inl ⟨by rw [hC]; exact ht _ _ e1, by rw [hC]; show He.ga X.K y.nm = _; rw [of_decide_eq_true h1], ?_⟩
        split at h2
        · rename_i d e2; exact ⟨d, e2, h2⟩
        · exact h2.elim
      · rename_i e1
        exact .inr ⟨by rw [hC]; exact ht _ _ e1, hy⟩
      · exact hy.elim
    · obtain ⟨rfl, rx2⟩ := rx
      rcases px with ⟨em, eC, d', ed, pr⟩ | ⟨em, px⟩
      · refine ⟨true, em, fun _ a ha => ?_, (fun z => nomatch z)⟩
        have ne : x'.fs ≠ [] := fun z => by rw [z] at ed; cases ed
        obtain ⟨dd, vs, rfl, hdd, pp⟩ := rx2 ne
        obtain ⟨v, ev, rv⟩ := lookup_rep pp ed
        show _ → _
        intro hl
        have hil : i < σ'.length := by
          rw [List.length_set] at hl
          rw [hl]
          exact (List.getElem?_eq_some_iff.mp hi).1
        exact ⟨.ref a, List.getElem?_set_self hil, rfl, by rw [eC], dd, vs, v, rfl, hdd, ev, k.rt v F' H' (.im d') xt rv pr⟩
      · exact ⟨false, em, (fun z => nomatch z), fun _ => k.ex x' F' H' _ d σ' xt ⟨rfl, rx2⟩ px⟩
end
end FW
set_option Elab.async false
set_option linter.all false
set_option maxRecDepth 100000
set_option maxHeartbeats 4000000
/-! the head's facts of an own exception class with super().__init__ -/
namespace FW
open PySem PySem.Spec L2 DW PySem.W
structure IeD where
  x : Str
  q0 : Str
  params : Arguments
  body : List Stmt
  scope : Scope
def clsB (K : Frag) (C : Addr) : Bool := match K.lookup C with
  | some ⟨.type "type", _, .cls cd, sl⟩ => (match cd.mro, sl.toList with
    | .ref C' :: bm, [_, _, _, _, some (.builtin n), _] => C' == C && (n == "ValueError.__new__" && (!cd.hasDel && (cd.hasDict && HandSPX.refsVE bm)))
    | _, _ => false)
  | _ => false
theorem clsB_ok {K : Frag} {C : Addr} (h : clsB K C = true) : ∃ nm q N bs bm sn sub ab col dd k0 k1 k2 k3 k5, K.lookup C = some (excClassObj nm q C N bs bm true sn sub ab col dd k0 k1 k2 k3 k5 "ValueError.__new__") ∧ HandSPX.refsVE bm = true := by
  unfold clsB at h
  split at h
  · rename_i dd cd sl ho
    split at h
    · rename_i C' bm k0 k1 k2 k3 n k5 hm hs
      simp only [Bool.and_eq_true, beq_iff_eq, Bool.not_eq_true'] at h
      obtain ⟨e1, e2, e3, e4, e5⟩ := h
      obtain ⟨nm, bs, mro, ns, qn, hd, sn, sb, ab, col, del⟩ := cd
      dsimp only at hm e3 e4
      subst hm e3 e4 e1 e2
      have e6 : sl = #[k0, k1, k2, k3, some (.builtin "ValueError.__new__"), k5] := by
        obtain ⟨l⟩ := sl
        have : l = [k0, k1, k2, k3, some (.builtin "ValueError.__new__"), k5] := hs
        rw [this]
      subst e6
      exact ⟨nm, qn, ns, bs, bm, sn, sb, ab, col, dd, k0, k1, k2, k3, k5, ho, e5⟩
    · cases h
  · cases h
abbrev FnE : Type := Option (Str × Str × Arguments × FuncBody × Scope × Addr × Addr)
def fnE (K : Frag) (fI : Addr) : FnE := match K.lookup fI with
  | some ⟨_, _, .func fd, _⟩ => some (fd.name, fd.qualname, fd.params, fd.body, fd.scope, fd.globals, fd.builtins)
  | _ => none
def fnB (file : Str) (K : Frag) (C fI : Addr) (q0 : Str) : Bool := match K.lookup fI with
  | some ⟨_, _, .func fd, _⟩ => (match fd.closure with
      | [(n, cc)] => n == "__class__" && (match K.lookup cc with
        | some ⟨_, _, .cell (some (.ref c)), _⟩ => c == C
        | _ => false)
      | _ => false) && ((match fd.defaults with
      | .none => true
      | _ => false) && ((match fd.kwdefaults with
      | .none => true
      | _ => false) && (match fd.code with
      | .ref cda => codeIn K (.ref cda) q0 && (match K.lookup cda with
        | some ⟨_, _, .fields vs, _⟩ => (match (vs[2]? : Option Value) with
          | some (Value.str f _) => file == f
          | _ => false)
        | _ => false)
      | _ => false)))
  | _ => false
def ieB (file : Str) (K : Frag) (d : IeD) : Bool :=
  let C := He.ga K d.x
  let fI := He.ma K C "__init__"
  clsB K C && (He.eqO (findIn K (.ref C) "__setattr__") (some (some (.builtin "object.__setattr__"))) && (He.eqO (findIn K (.ref C) "__getattribute__") (some (some (.builtin "BaseException.__getattribute__"))) &&
    (He.eqO (findIn K (.ref C) "__getattr__") (some none) && (He.eqO (findIn K (.ref C) "code") (some none) && (He.eqO (findIn K (.ref C) "__init__") (some (some (.ref fI))) && (decide (typeIn K (.ref fI) = some (.type "function")) &&
    (keepIn K (.ref C) && (decide (subIn K (.ref C) (.type "BaseException") = some true) && (decide (subIn K (.ref C) (.type "ValueError") = some true) && (decide (typeIn K (.ref C) = some (.type "type")) && (hasDictIn K C &&
    (decide (mroIn K C (.ref C) = some true) && (He.eqO (ks_superIn K C C "__init__") (some (some (.builtin "ValueError.__init__"))) && (He.eqO (nsIn K cStatics "thirdparty.any") (some none) && fnB file K C fI d.q0))))))))))))))
def ieObs (file : Str) (K : Frag) (d : IeD) : Bool × FnE := (ieB file K d, fnE K (He.ma K (He.ga K d.x) "__init__"))
def ieVal (d : IeD) : Bool × FnE := (true, some ("__init__", d.q0, d.params, .stmts d.body, d.scope, mainGlobals, builtinsNs))
theorem ie_txt {prog : Program} {K : Frag} {mg : Str → Option Value} {d : IeD} {p1 p2 q1 q2 q3 q4 q5 q6 q7 q8 r1 r2 r3 r4 : Pos} (h : ieObs prog.main.file K d = ieVal d) (hp : d.params = DX.iA p1 p2) (hb : d.body = DX.iB q1 q2 q3 q4 q5 q6 q7 q8 r1 r2 r3 r4) (hs : d.scope = DX.iS)
    (hl : (q3.endLine == q4.line) = true) (hg : mg d.x = some (.ref (He.ga K d.x))) (hsup : mg "super" = none) (htop : (prog.main.scope.names.lookup ("super" : Str)).isSome = false) : DX.IeTxt prog K mg d.x d.q0 (He.ga K d.x) (He.ma K (He.ga K d.x) "__init__") := by
  have h1 : ieB prog.main.file K d = true := congrArg (fun z : Bool × FnE => z.1) h
  have h2 : fnE K (He.ma K (He.ga K d.x) "__init__") = some (("__init__" : Str), d.q0, d.params, FuncBody.stmts d.body, d.scope, mainGlobals, builtinsNs) := congrArg (fun z : Bool × FnE => z.2) h
  unfold ieB at h1
  simp only [Bool.and_eq_true, decide_eq_true_eq] at h1
  obtain ⟨a1, a2, a3, a4, a5, a6, a7, a8, a9, a10, a11, a12, a13, a14, a15, a16⟩ := h1
  refine ⟨hg, clsB_ok a1, He.eqO_ok a2, He.eqO_ok a3, He.eqO_ok a4, He.eqO_ok a5, He.eqO_ok a6, a7, a8, a9, a10, a11, a12, a13, He.eqO_ok a14, He.eqO_ok a15, hsup, htop, ?_⟩
  generalize He.ma K (He.ga K d.x) "__init__" = fI at *
  generalize He.ga K d.x = C at *
  unfold fnE at h2
  unfold fnB at a16
  split at h2
  · rename_i oc od fd osl ho
    rw [ho] at a16
    dsimp only at a16
    obtain ⟨nm, qn, pr, bd, sc, gl, clo, df, kdf, doc, pm, an, cd, ct, bl⟩ := fd
    injection h2 with h2
    simp only [Prod.mk.injEq] at h2
    obtain ⟨e1, e2, e3, e4, e5, e6, e7⟩ := h2
    simp only [Bool.and_eq_true] at a16
    obtain ⟨b1, b2, b3, b4⟩ := a16
    split at b1
    · rename_i n cc
      rw [Bool.and_eq_true, beq_iff_eq] at b1
      obtain ⟨c1, c2⟩ := b1
      split at c2
      · rename_i cl cld c csl hcc
        rw [beq_iff_eq] at c2
        split at b2
        · split at b3
          · split at b4
            · rename_i cda
              rw [Bool.and_eq_true] at b4
              obtain ⟨d1, d2⟩ := b4
              split at d2
              · rename_i ccl cdd vs ccs hcda
                split at d2
                · rename_i f tf hv
                  rw [hp] at e3
                  rw [hb] at e4
                  rw [hs] at e5
                  subst e1 e2 e3 e4 e5 e6 e7 c1 c2
                  exact ⟨oc, od, doc, pm, an, cda, ct, cc, osl, p1, p2, q1, q2, q3, q4, q5, q6, q7, q8, r1, r2, r3, r4, ho, d1, hl, ⟨ccl, cdd, vs, ccs, f, tf, hcda, hv, d2⟩, cl, cld, csl, hcc⟩
                · cases d2
              · cases d2
            · cases b4
          · cases b3
        · cases b2
      · cases c2
    · cases b1
  · cases h2
/-! ### the hook -/
abbrev AlE : Type := He.AlD × List (Bool × FnE)
def asE (g : Addr → Option Obj) (n : Nat) : List Addr := cStatics :: He.asD g n
def obsE (file : Str) (fa : List He.Fa) (fn : List He.DefD) (ies : List IeD) (K : Frag) : AlE := (He.obsD fa fn K, ies.map (ieObs file K))
def valE (fn : List He.DefD) (ies : List IeD) : AlE := (He.valD fn, ies.map ieVal)
def SaysE (file : Str) (fa : List He.Fa) (fn : List He.DefD) (ies : List IeD) (K : Frag) : Prop := obsE file fa fn ies K = valE fn ies
def obsEG (file : Str) (n : Nat) (fa : List He.Fa) (fn : List He.DefD) (ies : List IeD) (g : Addr → Option Obj) : AlE := obsE file fa fn ies (He.frG g (asE g n))
def hookE (file : Str) (n : Nat) (fa : List He.Fa) (fn : List He.DefD) (ies : List IeD) : Hook where
  α := AlE
  obs := fun s => obsEG file n fa fn ies s.heap.get?
  val := fun _ => valE fn ies
  says := fun _ h => ∃ K : Frag, K.In h ∧ SaysE file fa fn ies K
  of := fun _ _ e => ⟨_, He.frG_in, e⟩
  keeps := fun _ _ _ ⟨K, hK, c⟩ k => ⟨K, Frag.In.keeps hK k, c⟩
theorem obsEG_eq {file : Str} {n : Nat} {fa : List He.Fa} {fn : List He.DefD} {ies : List IeD} {g : Addr → Option Obj} {s : Shared} (h : ∀ a, g a = s.heap.get? a) : obsEG file n fa fn ies g = (hookE file n fa fn ies).obs s := by
  have e : g = s.heap.get? := funext h
  rw [e] <;> rfl
theorem SaysE.d {file : Str} {fa : List He.Fa} {fn : List He.DefD} {ies : List IeD} {K : Frag} (c : SaysE file fa fn ies K) : He.SaysD fa fn K := congrArg (fun z : AlE => z.1) c
theorem SaysE.ie {file : Str} {fa : List He.Fa} {fn : List He.DefD} {ies : List IeD} {K : Frag} (c : SaysE file fa fn ies K) (i : Nat) {d : IeD} (h : ies[i]? = some d) : ieObs file K d = ieVal d := by
  have e : ies.map (ieObs file K) = ies.map ieVal := congrArg (fun z : AlE => z.2) c
  have e2 : (ies.map (ieObs file K))[i]? = (ies.map ieVal)[i]? := by rw [e]
  rw [List.getElem?_map, List.getElem?_map, h] at e2
  exact Option.some.inj e2
theorem xf_of {prog : Program} {K : Frag} {mg : Str → Option Value} {x q0 : Str} {C fI : Addr} (T : DX.IeTxt prog K mg x q0 C fI) : XfC K C := ⟨T.ga, T.gg, T.exC, T.hdC⟩
end FW
set_option Elab.async false
set_option linter.all false
set_option maxRecDepth 100000
set_option maxHeartbeats 4000000
namespace FW
open PySem PySem.Spec L2 DW
/-! ### targets that tell which slots they leave -/
section
variable {K : PySem.W.Frag} {G : Gd} {F F1 F2 H H1 H2 : Hp} {σ σ2 : L2.St} {δ δ2 : DEnv}
/-- owned slots are as they were -/
def Own (δ δ' : DEnv) (σ σ' : L2.St) : Prop := ∀ (j : Nat) s, δ'[j]? = some (some s) → s.owned = true → δ[j]? = some (some s) ∧ σ'[j]? = σ[j]?
theorem Own.refl : Own δ δ σ σ := fun j s e o => ⟨e, rfl⟩
theorem Own.trans {δ3 : DEnv} {σ3 : L2.St} (a : Own δ δ2 σ σ2) (b : Own δ2 δ3 σ2 σ3) : Own δ δ3 σ σ3 := fun j s e o => by
  obtain ⟨e1, q1⟩ := b j s e o
  obtain ⟨e2, q2⟩ := a j s e1 o
  exact ⟨e2, q1.trans q2⟩
theorem Own.set {i : Nat} {d : D} {v : Option V} : Own δ (δ.set i (some (.im d))) σ (σ.set i v) := fun j s e o => by
  by_cases h : i = j
  · subst h
    by_cases hl : i < δ.length
    · rw [List.getElem?_set_self hl] at e; cases e; cases o
    · rw [List.getElem?_eq_none (by rw [List.length_set]; omega)] at e; cases e
  · rw [List.getElem?_set_ne h] at e ⊢
    exact ⟨e, rfl⟩
def dGTo (K : PySem.W.Frag) (G : Gd) (ts : List Nat) (wg : WG) : TG := fun v σ H Q => ∃ F δ d P, RepS K G F H σ δ ∧ RepD K F v d ∧ wg d δ P ∧ ∀ σ' δ', Only ts σ σ' → RepS K G F H σ' δ' → Own δ δ' σ σ' → P δ' → Q σ' H
def dGTso (K : PySem.W.Frag) (G : Gd) (ts : List Nat) (wg : WGs) : TGs := fun vs σ H Q => ∃ F δ ds P, RepS K G F H σ δ ∧ RepL K F vs ds ∧ wg ds δ P ∧ ∀ σ' δ', Only ts σ σ' → RepS K G F H σ' δ' → Own δ δ' σ σ' → P δ' → Q σ' H
/-- a state told at two times: the owned slots from the first, the data from the second -/
theorem RepS.mix (S : RepS K G F1 H1 σ δ) (S2 : RepS K G F2 H2 σ2 δ2) (o : Own δ δ2 σ σ2) (x : Ext G.w F1 H1 F H) (sub : Sub F2 F) : RepS K G F H σ2 δ2 where
  ext := S.ext.trans x
  len := S2.len
  slot := fun i s e => by
    obtain ⟨v, e1, r⟩ := S2.slot i s e
    refine ⟨v, e1, ?_⟩
    by_cases h : s.owned = true
    · obtain ⟨e2, q⟩ := o i s e h
      obtain ⟨v', e3, r'⟩ := S.slot i s e2
      rw [q, e3] at e1
      cases e1
      exact r'.ext x
    · cases s with
      | im d => exact RepD.mono sub r
      | drw => exact r
      | _ => exact absurd rfl h
  fresh := S2.fresh
  apart := S2.apart
end
section
variable {X : Cx} {G : Gd} {W : WX} {st : Bool} {tg iter tg1 iter1 e a b c elt kx vx : Expr} {es rest : List Expr} {fe fa fk fv : FE} {ft : FT} {fi fi1 : FI} {fg fg1 : FG} {fgs : FGs} {pos p np : Pos} {ts us : List Nat} {s : Stmt}
abbrev Go_ (X : Cx) (G : Gd) (ts : List Nat) (e : Expr) (f : FG) : Prop := PG X e (dGTo X.K G ts (wG f))
abbrev Gso_ (X : Cx) (G : Gd) (ts : List Nat) (es : List Expr) (f : FGs) : Prop := PGs X es (dGTso X.K G ts (wGs f))
theorem go_name {i : Nat} (h : PG X e (gName i)) : Go_ X G [i] e (gN i) := PG.imp h fun v σ H Q ⟨F, δ, d, P, S, r, p, k⟩ =>
  k _ _ Only.one (S.store (s := .im d) r fun z => nomatch z) Own.set p
theorem gso_nil : Gso_ X G [] [] gsNil := PGs.imp pgs_nil fun vs σ H Q ⟨F, δ, ds, P, S, r, q, k⟩ => by
  cases ds with
  | nil => cases r; exact ⟨rfl, k σ δ Only.refl S Own.refl q⟩
  | cons d r => exact q.elim
theorem gso_cons (h : Go_ X G ts e fg) (hs : Gso_ X G us es fgs) (ha : (assignEach (e :: es) X.env).map (·.2) = assign e X.env :: (assignEach es X.env).map (·.2) := by rfl) : Gso_ X G (ts ++ us) (e :: es) (gsCons fg fgs) :=
  PGs.imp (pgs_cons h hs ha) fun vs σ H Q ⟨F, δ, ds, P, S, r, p, k⟩ => by
    cases ds with
    | nil => exact p.elim
    | cons d rr =>
      cases r with
      | cons a t => exact ⟨_, _, rfl, F, δ, d, _, S, a, Tr.sat_bind.mp p, fun σ1 δ1 o1 S1 w1 p1 => ⟨F, δ1, rr, P, S1, t, p1, fun σ2 δ2 o2 S2 w2 p2 => k σ2 δ2 (o1.app o2) S2 (w1.trans w2) p2⟩⟩
theorem go_tup {n k : Nat} (hc : X.calm = true) (h : Gso_ X G ts es fgs) (hn : (assignEach es X.env).length = n := by rfl) (hst : (assignEach es X.env).findIdx? (·.1) = none := by rfl) : Go_ X G ts (.Tuple es k pos) (gTup n fgs) :=
  PG.imp (pg_tup hc h hn hst) fun v σ H Q ⟨F, δ, d, P, S, r, q, k⟩ => by
    unfold wG gTup at q
    split at q
    · obtain ⟨h1, h2⟩ := gd_sat q
      cases r with
      | tup ha l => exact ⟨_, _, rfl, .inl (.inl (S.ext.le _ _ ha)), by rw [RepL.length l]; exact of_decide_eq_true h1, F, δ, _, P, S, l, h2, k⟩
    · exact q.elim
/-! ### [.. for .. in .. for .. in .. if ..] -/
def lc2F (g1 : FG) (i2 : FI) (g2 : FG) (t : FT) (f : FE) (vs2 : List Nat) (δ0 : DEnv) : List D → List D → Tr (List D)
  | [], acc => .ok acc
  | d :: ds, acc => (calm (g1 d δ0)).bind fun δ1 => (calm (i2 δ1)).bind fun items => (lcF g2 t f (wipeD δ1 vs2) items acc).bind fun acc' => lc2F g1 i2 g2 t f vs2 δ0 ds acc'
def fLc2 (i1 : FI) (g1 : FG) (i2 : FI) (g2 : FG) (t : FT) (f : FE) (vs vs2 : List Nat) : FE := fun δ => (i1 δ).bind fun items => (lc2F g1 i2 g2 t f vs2 (wipeD δ vs) items []).bind fun out => .ok (.ol out)
theorem lc2_of {K : PySem.W.Frag} {ts1 ts2 vs vs2 : List Nat} {tt : TT} {te : TE} (h1 : ∀ t ∈ ts1, t ∈ vs) (h2 : ∀ t ∈ ts2, t ∈ vs2) (ht : ∀ σ H Q, dTT K G wTrue (wT K ft) σ H Q → tt σ H Q) (he : ∀ σ H Q, dT K G wTrue (wE K fe) σ H Q → te σ H Q)
    {σ : L2.St} {H : Hp} {Q : VK} (h : dT K G W (wE K (fLc2 fi fg fi1 fg1 ft fe vs vs2)) σ H Q) : tLc2 (dTI K G W st (wI K fi)) (dGTo K G ts1 (wG fg)) (fun _ H Q => Q true H) (dTI K G wTrue true (wI K fi1)) (dGT K G ts2 (wG fg1)) tt te vs vs2 σ H Q := by
  obtain ⟨F, δ, P, PX, S, q, k, xk⟩ := h
  refine ⟨F, δ, _, PX, S, Tr.sat_bind.mp q, fun J C F1 H1 items x1 c1 dw stc p1 => fun D hD => ?_, xk⟩
  have x1' : Ext G.w F1 H1 F1 (upd H1 D (.lst [])) := x1.stay.own hD
  have nd : ∀ d, G.w = some d → d.a ≠ D := fun d e z => by
    obtain ⟨i, r, c, h, _⟩ := (x1.dr d e).at_
    rw [z, hD] at h; cases h
  have fin : ∀ {acc : List PyData} {avs : List V} {F H : Hp}, Ext G.w F1 H1 F H → H D = some (.lst avs) → F D = none → RepL K F avs acc → P (.ol acc) → Q (.ref D) H := fun {acc avs F' H'} x2 hDl hDf la p => k _ F' H' (.ol acc) (x1.trans x2) ⟨D, avs, rfl, x1.none hD, hDl, hDf, nd, la⟩ p
  refine ⟨fun i m H => m = items.length - i ∧ i ≤ items.length ∧ ∃ F avs acc, Ext G.w F1 H1 F H ∧ H D = some (.lst avs) ∧ F D = none ∧ RepL K F avs acc ∧ (lc2F fg fi1 fg1 ft fe vs2 (wipeD δ vs) (items.drop i) acc).sat (fun out => P (.ol out)) (fun _ => True),
    ⟨_, rfl, Nat.zero_le _, F1, [], [], x1', upd_same, x1.le.none hD, .nil, Tr.sat_mono (Tr.sat_bind.mp p1) (fun _ h => h) fun _ _ => trivial⟩, ?_⟩
  rintro i m H ⟨rfl, hi, F, avs, acc, x2, hDl, hDf, la, go⟩
  obtain ⟨w1, w2, w3⟩ := dw F H (stc.ext c1 x2) x2.stay
  by_cases hlt : i < items.length
  · refine .inr ⟨w1 i hlt, fun H' => i + 1 ≤ items.length ∧ ∃ F avs acc, Ext G.w F1 H1 F H' ∧ H' D = some (.lst avs) ∧ F D = none ∧ RepL K F avs acc ∧ (lc2F fg fi1 fg1 ft fe vs2 (wipeD δ vs) (items.drop (i + 1)) acc).sat (fun out => P (.ol out)) (fun _ => True),
      fun H' n => ⟨items.length - (i + 1), by omega, rfl, n⟩, fun x H' y => ?_⟩
    have hd : items[i]? = some items[i] := List.getElem?_eq_getElem hlt
    have hdrop : items.drop i = items[i] :: items.drop (i + 1) := List.drop_eq_getElem_cons hlt
    rw [hdrop] at go
    obtain ⟨F', x3, rd⟩ := w3 i x H' _ hd y
    have S0 := (S.to x1).wipe vs
    have S' : RepS K G F' H' (L2.wipe σ vs) (wipeD δ vs) := (S.to (x1.trans (x2.trans x3))).wipe vs
    refine ⟨F', wipeD δ vs, _, _, S', rd, calm_sat (Tr.sat_bind.mp go), fun σ2 δ2 o2 S2 own2 p2 => ⟨wipe_only o2 h1, ?_⟩⟩
    show (if true = true then _ else _)
    rw [if_pos rfl]
    obtain ⟨hD', hDf'⟩ := x3.keepN hDl hDf nd
    refine ⟨F', δ2, _, fun _ => False, S2, calm_sat (Tr.sat_bind.mp p2), fun J1 C1 F2 H2 items1 y1 cc1 dw1 stc1 q1 => ?_, xok_true⟩
    have hD2 := y1.keepN hD' hDf' nd
    refine ⟨fun j k H => k = items1.length - j ∧ j ≤ items1.length ∧ ∃ F avs acc, Ext G.w F1 H1 F H ∧ Sub F2 F ∧ H D = some (.lst avs) ∧ F D = none ∧ RepL K F avs acc ∧
      (lcF fg1 ft fe (wipeD δ2 vs2) (items1.drop j) acc).sat (fun acc' => (lc2F fg fi1 fg1 ft fe vs2 (wipeD δ vs) (items.drop (i + 1)) acc').sat (fun out => P (.ol out)) (fun _ => True)) (fun _ => True),
      ⟨_, rfl, Nat.zero_le _, F2, avs, acc, (x2.trans x3).trans y1, Sub.refl, hD2.1, hD2.2, RepL.mono (x3.trans y1).fs la, Tr.sat_mono (Tr.sat_bind.mp q1) (fun _ h => h) fun _ _ => trivial⟩, ?_⟩
    rintro j n H3 ⟨rfl, hj, F3, avs3, acc3, z3, s3, hD3, hDf3, la3, go3⟩
    have cc3 : C1 F3 H3 := by
      unfold StC at stc1
      rw [if_pos rfl] at stc1
      exact stc1 F2 H2 F3 H3 cc1 s3 z3.le
    obtain ⟨v1, v2, v3⟩ := dw1 F3 H3 cc3 z3.stay
    by_cases hlt1 : j < items1.length
    · refine .inr ⟨v1 j hlt1, fun H' => j + 1 ≤ items1.length ∧ ∃ F avs acc, Ext G.w F1 H1 F H' ∧ Sub F2 F ∧ H' D = some (.lst avs) ∧ F D = none ∧ RepL K F avs acc ∧
        (lcF fg1 ft fe (wipeD δ2 vs2) (items1.drop (j + 1)) acc).sat (fun acc' => (lc2F fg fi1 fg1 ft fe vs2 (wipeD δ vs) (items.drop (i + 1)) acc').sat (fun out => P (.ol out)) (fun _ => True)) (fun _ => True),
        fun H' n => ⟨items1.length - (j + 1), by omega, rfl, n⟩, fun x4 H4 y4 => ?_⟩
      have hd1 : items1[j]? = some items1[j] := List.getElem?_eq_getElem hlt1
      have hdrop1 : items1.drop j = items1[j] :: items1.drop (j + 1) := List.drop_eq_getElem_cons hlt1
      rw [hdrop1] at go3
      obtain ⟨F4, x5, rd4⟩ := v3 j x4 H4 _ hd1 y4
      have S4 : RepS K G F4 H4 σ2 δ2 := RepS.mix S0 S2 own2 (z3.trans x5) (y1.fs.trans (s3.trans x5.fs))
      refine ⟨F4, wipeD δ2 vs2, _, _, S4.wipe vs2, rd4, calm_sat (Tr.sat_bind.mp go3), fun σ5 δ5 o5 S5 p5 => ⟨wipe_only o5 h2, ?_⟩⟩
      refine ht _ _ _ ⟨F4, δ5, _, fun _ => False, S5, calm_sat (Tr.sat_bind.mp p5), fun b F6 H6 x6 p6 => ?_, xok_true⟩
      cases b with
      | false =>
        rw [if_neg Bool.false_ne_true]
        have x7 := x5.trans x6
        obtain ⟨h', n'⟩ := x7.keepN hD3 hDf3 nd
        exact ⟨hlt1, F6, avs3, acc3, z3.trans x7, s3.trans x7.fs, h', n', RepL.mono x7.fs la3, p6⟩
      | true =>
        rw [if_pos rfl]
        refine he _ _ _ ⟨F6, δ5, _, fun _ => False, S5.to x6, calm_sat (Tr.sat_bind.mp p6), fun yv F7 H7 r x7 q7 p7 => ?_, xok_true⟩
        split at p7
        · rename_i d' er
          obtain ⟨hz, p8⟩ := gd_sat p7
          obtain ⟨F8, x8, _, rd'⟩ := q7.freeze x7 er
          have x9 := (x5.trans x6).trans x8
          obtain ⟨h', n'⟩ := x9.keepN hD3 hDf3 nd
          refine ⟨avs3, h', by rw [RepL.length la3, sizeLine_eq]; exact of_decide_eq_true hz, hlt1, F8, avs3 ++ [yv], acc3 ++ [d'], (z3.trans x9).write hD h' n' nd, s3.trans x9.fs, upd_same, n', RepL.append (RepL.mono x9.fs la3) (.cons rd' .nil), p8⟩
        · exact p7.elim
    · have hn : j = items1.length := by omega
      subst hn
      rw [List.drop_length] at go3
      exact .inl ⟨v2, hlt, F3, avs3, acc3, z3, hD3, hDf3, la3, go3⟩
  · have hn : i = items.length := by omega
    subst hn
    rw [List.drop_length] at go
    exact .inl ⟨w2, fin x2 hDl hDf la go⟩
section
variable {scope : Scope} {own : List (Str × Nat)} {vs2 : List Nat} {y : Str} {py spos : Pos}
theorem e_lc2 (hc : X.calm = true) (hN : X.N.Nodup) (hi : I_ X G W st tg iter fi) (ok : BlkOk X.N X.env.scope scope own)
    (hg : ∀ (s : Shared) (H : Hp) (C : Addr) (cl : List (Str × Addr)) (fp : List Addr), Go_ (X.blk s H scope (compEnvC scope cl C X.env) fp) G ts tg fg)
    (hi1 : ∀ (s : Shared) (H : Hp) (C : Addr) (cl : List (Str × Addr)) (fp : List Addr), I_ (X.blk s H scope (compEnvC scope cl C X.env) fp) G wTrue true tg1 iter1 fi1)
    (hg1 : ∀ (s : Shared) (H : Hp) (C : Addr) (cl : List (Str × Addr)) (fp : List Addr), G_ (X.blk s H scope (compEnvC scope cl C X.env) fp) G us tg1 fg1)
    (he : ∀ (s : Shared) (H : Hp) (C : Addr) (cl : List (Str × Addr)) (fp : List Addr), E_ (X.blk s H scope (compEnvC scope cl C X.env) fp) G wTrue elt fe)
    (hv : ∀ i ∈ vs2, i ∈ own.map (·.2) := by decide) (hts : ∀ t ∈ ts, t ∈ own.map (·.2) := by decide) (hus : ∀ t ∈ us, t ∈ vs2 := by decide) (hs : ∀ x, foldedSetIterable iter X.env x = pure x := by intro _; rfl) (hs1 : ∀ env x, foldedSetIterable iter1 env x = pure x := by intro _ _; rfl) :
    E_ X G W (.ListComp elt [⟨tg, iter, [], 0⟩, ⟨tg1, iter1, [], 0⟩] scope pos) (fLc2 fi fg fi1 fg1 tYes fe (own.map (·.2)) vs2) :=
  PE.imp (pe_lc2 (vs1 := vs2) hc hN hi ok hv hg (fun _ _ _ _ _ => pts_nil) hi1 hg1 (fun _ _ _ _ _ => pts_nil) he hs hs1) fun σ H Q h => lc2_of hts hus (fun σ H Q ⟨F, δ, P, PX, S, q, k, xk⟩ => k true F H S.ext.stay q) (fun _ _ _ h => h) h
theorem e_lc2If (hc : X.calm = true) (hN : X.N.Nodup) (hi : I_ X G W st tg iter fi) (ok : BlkOk X.N X.env.scope scope own)
    (hg : ∀ (s : Shared) (H : Hp) (C : Addr) (cl : List (Str × Addr)) (fp : List Addr), Go_ (X.blk s H scope (compEnvC scope cl C X.env) fp) G ts tg fg)
    (hi1 : ∀ (s : Shared) (H : Hp) (C : Addr) (cl : List (Str × Addr)) (fp : List Addr), I_ (X.blk s H scope (compEnvC scope cl C X.env) fp) G wTrue true tg1 iter1 fi1)
    (hg1 : ∀ (s : Shared) (H : Hp) (C : Addr) (cl : List (Str × Addr)) (fp : List Addr), G_ (X.blk s H scope (compEnvC scope cl C X.env) fp) G us tg1 fg1)
    (ht : ∀ (s : Shared) (H : Hp) (C : Addr) (cl : List (Str × Addr)) (fp : List Addr), T_ (X.blk s H scope (compEnvC scope cl C X.env) fp) G wTrue c ft)
    (he : ∀ (s : Shared) (H : Hp) (C : Addr) (cl : List (Str × Addr)) (fp : List Addr), E_ (X.blk s H scope (compEnvC scope cl C X.env) fp) G wTrue elt fe)
    (hv : ∀ i ∈ vs2, i ∈ own.map (·.2) := by decide) (hts : ∀ t ∈ ts, t ∈ own.map (·.2) := by decide) (hus : ∀ t ∈ us, t ∈ vs2 := by decide) (hs : ∀ x, foldedSetIterable iter X.env x = pure x := by intro _; rfl) (hs1 : ∀ env x, foldedSetIterable iter1 env x = pure x := by intro _ _; rfl) :
    E_ X G W (.ListComp elt [⟨tg, iter, [], 0⟩, ⟨tg1, iter1, [c], 0⟩] scope pos) (fLc2 fi fg fi1 fg1 ft fe (own.map (·.2)) vs2) :=
  PE.imp (pe_lc2 (vs1 := vs2) hc hN hi ok hv hg (fun _ _ _ _ _ => pts_nil) hi1 hg1 (fun s H C cl fp => pts_one (ht s H C cl fp)) he hs hs1) fun σ H Q h => lc2_of hts hus (fun _ _ _ h => h) (fun _ _ _ h => h) h
theorem s_setLc2 {i : Nat} (hc : X.calm = true) (hN : X.N.Nodup) (hy : X.N[i]? = some y) (hyl : X.env.scope.names.lookup y = some .local) (hsw : swapsWith (.ListComp elt [⟨tg, iter, [], 0⟩, ⟨tg1, iter1, [], 0⟩] scope pos) (some (.Name y py)) spos.line X.env = pure true)
    (hi : I_ X G W st tg iter fi) (ok : BlkOk X.N X.env.scope scope own)
    (hg : ∀ (s : Shared) (H : Hp) (C : Addr) (cl : List (Str × Addr)) (fp : List Addr), Go_ (X.blk s H scope (compEnvC scope cl C X.env) fp) G ts tg fg)
    (hi1 : ∀ (s : Shared) (H : Hp) (C : Addr) (cl : List (Str × Addr)) (fp : List Addr), I_ (X.blk s H scope (compEnvC scope cl C X.env) fp) G wTrue true tg1 iter1 fi1)
    (hg1 : ∀ (s : Shared) (H : Hp) (C : Addr) (cl : List (Str × Addr)) (fp : List Addr), G_ (X.blk s H scope (compEnvC scope cl C X.env) fp) G us tg1 fg1)
    (he : ∀ (s : Shared) (H : Hp) (C : Addr) (cl : List (Str × Addr)) (fp : List Addr), E_ (X.blk s H scope (compEnvC scope cl C X.env) fp) G wTrue elt fe)
    (hv : ∀ i ∈ vs2, i ∈ own.map (·.2) := by decide) (hts : ∀ t ∈ ts, t ∈ own.map (·.2) := by decide) (hus : ∀ t ∈ us, t ∈ vs2 := by decide) (hs : ∀ x, foldedSetIterable iter X.env x = pure x := by intro _; rfl) (hs1 : ∀ env x, foldedSetIterable iter1 env x = pure x := by intro _ _; rfl) :
    S_ X G W (.Assign [.Name y py] (.ListComp elt [⟨tg, iter, [], 0⟩, ⟨tg1, iter1, [], 0⟩] scope pos) spos) (sSetF i (fLc2 fi fg fi1 fg1 tYes fe (own.map (·.2)) vs2)) :=
  DS.imp (ws := sSet i (wE X.K (fLc2 fi fg fi1 fg1 tYes fe (own.map (·.2)) vs2))) (PS.imp (ps_setLc2 (vs1 := vs2) hc hN hy hyl hsw hi ok hv hg (fun _ _ _ _ _ => pts_nil) hi1 hg1 (fun _ _ _ _ _ => pts_nil) he hs hs1) fun D σ H h => by
    have q : tAsg (dT X.K G W (wE X.K (fLc2 fi fg fi1 fg1 tYes fe (own.map (·.2)) vs2))) (gName i) D σ H := set_of h
    unfold tAsg at q ⊢
    exact lc2_of (K := X.K) (G := G) (W := W) (st := st) (fi := fi) (fg := fg) (fi1 := fi1) (fg1 := fg1) (ft := tYes) (fe := fe) (vs := own.map (·.2)) (vs2 := vs2) hts hus (fun σ H Q ⟨F, δ, P, PX, S, q, k, xk⟩ => k true F H S.ext.stay q) (fun _ _ _ h => h) q) fun E δ q => set_imp q
end
end
end FW
set_option Elab.async false
set_option linter.all false
set_option maxRecDepth 100000
set_option maxHeartbeats 4000000
/-! dicts as data: locked for good -/
namespace FW
open PySem PySem.Spec L2 DW
section
variable {K : PySem.W.Frag} {w : Option Dw} {G : Gd} {F F1 F2 H H1 H2 : Hp} {σ σ2 : L2.St} {δ δ2 : DEnv}
theorem Ext.lock (x : Ext w F H F1 H1) {p : Addr} {u u' : HO} (h0 : H p = none) (h : H1 p = some u) (n : F1 p = none) (nd : ∀ d, w = some d → d.a ≠ p) : Ext w F H (upd F1 p u') (upd H1 p u') where
  fs := x.fs.trans (upd_grow n)
  le := fun a o e => by
    by_cases ha : a = p
    · subst ha; rw [upd_same] at e ⊢; exact e
    · rw [upd_ne ha] at e ⊢; exact x.le a o e
  hs := fun a o e d => by
    rw [upd_ne (fun z => by subst z; rw [h0] at e; cases e)]
    exact x.hs a o e d
  new := fun a e => by
    by_cases ha : a = p
    · subst ha; exact .inr (.inl h0)
    · rw [upd_ne ha] at e ⊢; exact x.new a e
  dr := fun d e => by
    have o := x.dr d e
    obtain ⟨i, r, c, h, q⟩ := o.at_
    exact ⟨by rw [upd_ne (nd d e)]; exact o.free, ⟨i, r, c, by rw [upd_ne (nd d e)]; exact h, q⟩, upd_grow n _ _ o.copy, o.few, o.big⟩
/-- a tuple that stands is told -/
theorem Ext.tupIn (x : Ext w F H F1 H1) {q : Addr} {us : List V} (h : H1 q = some (.tup us)) : ∃ F2, Ext w F H F2 H1 ∧ Sub F1 F2 ∧ F2 q = some (.tup us) := by
  cases e : F1 q with
  | some o =>
    have := x.le q o e
    rw [h] at this
    cases this
    exact ⟨F1, x, Sub.refl, e⟩
  | none =>
    refine ⟨upd F1 q (.tup us), ?_, upd_grow e, upd_same⟩
    exact {
      fs := x.fs.trans (upd_grow e)
      le := fun a o ea => by
        by_cases ha : a = q
        · subst ha; rw [upd_same] at ea; rw [← ea]; exact h
        · rw [upd_ne ha] at ea; exact x.le a o ea
      hs := x.hs
      new := fun a ea => by
        by_cases ha : a = q
        · subst ha; exact .inr (.inr ⟨us, upd_same⟩)
        · rw [upd_ne ha] at ea ⊢; exact x.new a ea
      dr := fun d ed => by
        have o := x.dr d ed
        obtain ⟨i, r, c, hd, z⟩ := o.at_
        have ne : d.a ≠ q := fun z => by rw [z, h] at hd; cases hd
        exact ⟨by rw [upd_ne ne]; exact o.free, o.at_, upd_grow e _ _ o.copy, o.few, o.big⟩ }
def dKD (kvs : List (Key × D)) : D := .dict (kvs.map fun kv => (keyD kv.1, kv.2))
def dTD (kvs : List (List Key × D)) : D := .dict ((.none, .none) :: kvs.map fun kv => (.tuple (kv.1.map keyD), kv.2))
theorem zip_self {α β : Type} : ∀ (l : List (α × β)), (l.map (·.1)).zip (l.map (·.2)) = l
  | [] => rfl
  | (a, b) :: r => by rw [List.map_cons, List.map_cons, List.zip_cons_cons, zip_self r]
theorem zip_mapL {α β γ : Type} (f : α → γ) : ∀ (l : List (α × β)), ((l.map (·.1)).map f).zip (l.map (·.2)) = l.map fun kv => (f kv.1, kv.2)
  | [] => rfl
  | (a, b) :: r => by rw [List.map_cons, List.map_cons, List.map_cons, List.zip_cons_cons, zip_mapL f r]; rfl
theorem RepKV.keys {κ : Type} : ∀ {vs : List (κ × V)} {ds : List (κ × D)}, RepKV K F vs ds → vs.map (·.1) = ds.map (·.1)
  | _, _, .nil => rfl
  | _, _, .cons r t => by rw [List.map_cons, List.map_cons, RepKV.keys t]
theorem RepKV.vals {κ : Type} : ∀ {vs : List (κ × V)} {ds : List (κ × D)}, RepKV K F vs ds → RepL K F (vs.map (·.2)) (ds.map (·.2))
  | _, _, .nil => .nil
  | _, _, .cons r t => .cons r (RepKV.vals t)
theorem RepKV.dK {p : Addr} {o : Obj} {vs : List (Key × V)} {kvs : List (Key × D)} (l : RepKV K F vs kvs) (h : F p = some (.frz o (.dK vs))) : RepD K F (.ref p) (dKD kvs) := by
  have e : dKD kvs = .dict (kdK (vs.map (·.1)) (kvs.map (·.2))) := by
    unfold dKD kdK
    rw [RepKV.keys l, zip_mapL]
  rw [e]
  exact .dicK (vs := vs.map (·.2)) (by rw [zip_self]; exact h) (by rw [List.length_map, List.length_map]) (RepKV.vals l)
theorem RepKV.dT {p : Addr} {o : Obj} {vs : List (List Key × V)} {kvs : List (List Key × D)} (l : RepKV K F vs kvs) (h : F p = some (.frz o (.dT vs))) : RepD K F (.ref p) (dTD kvs) := by
  have e : dTD kvs = .dict (kdT (vs.map (·.1)) (kvs.map (·.2))) := by
    unfold dTD kdT
    rw [RepKV.keys l, zip_mapL]
  rw [e]
  exact .dicT (vs := vs.map (·.2)) (by rw [zip_self]; exact h) (by rw [List.length_map, List.length_map]) (RepKV.vals l)
/-- a dict that is told, back -/
theorem RepL.kv {κ : Type} : ∀ {ks : List κ} {vs : List V} {ds : List D}, ks.length = vs.length → RepL K F vs ds → RepKV K F (ks.zip vs) (ks.zip ds)
  | [], [], _, _, .nil => .nil
  | k :: ks, v :: vs, _, h, .cons r t => .cons r (RepL.kv (by simpa using h) t)
  | [], _ :: _, _, h, _ => by cases h
  | _ :: _, [], _, h, _ => by cases h
theorem keyOf_keyD (k : Key) : DW.keyOf (keyD k) = some k := by cases k <;> rfl
theorem keysOf_map (k : List Key) : DW.keysOf (k.map keyD) = some k := by
  induction k with
  | nil => rfl
  | cons a r ih => rw [List.map_cons, DW.keysOf, keyOf_keyD, ih]
theorem keyD_rep (k : Key) : RepD K F (kV k) (keyD k) := by
  cases k with
  | inl i => exact .int i
  | inr s => exact .str s
theorem keysD_rep : ∀ (k : List Key), RepL K F (k.map kV) (k.map keyD)
  | [] => .nil
  | a :: r => .cons (keyD_rep a) (keysD_rep r)
/-! ### locks, for good -/
section
variable {X : Cx} {e : Expr} {st : Stmt}
def tLk (t : TE) : TE := fun σ H Q => t σ H fun x H1 => Q x H1 ∨ ∃ d u, x = .ref d ∧ H1 d = some u ∧ Mut (some u) ∧ ∀ od, Q x (upd H1 d (.frz od u))
theorem pe_lk {t : TE} (h : PE X e t) : PE X e (tLk t) := by
  refine ⟨fun pins s σ H Q I hw => thn (h.run pins s σ H _ I hw) fun v s1 ⟨x, H1, I1, r, q⟩ => ?_⟩
  rcases q with q | ⟨d, u, rfl, hd, mu, q⟩
  · exact ⟨x, H1, I1, r, q⟩
  · obtain ⟨od, I2⟩ := I1.lock hd mu
    exact ⟨.ref d, _, I2, r, q od⟩
def tsLk (t : TS) : TS := fun D σ H => ∃ d u, H d = some u ∧ Mut (some u) ∧ ∀ od, t D σ (upd H d (.frz od u))
theorem ps_lk {t : TS} (h : PS X st t) : PS X st (tsLk t) := by
  refine ⟨fun pins s σ H D I ⟨d, u, hd, mu, hw⟩ => ?_⟩
  obtain ⟨od, I1⟩ := I.lock hd mu
  exact h.run pins s σ _ D I1 (hw od)
end
/-- a result, frozen -/
def frzR : R → R
  | .oK kvs => .im (dKD kvs)
  | .oT kvs => .im (dTD kvs)
  | .ol xs => .im (.list xs)
  | r => r
def fFrz (f : FE) : FE := fun δ => (f δ).bind fun r => .ok (frzR r)
section
variable {X : Cx} {G : Gd} {W : WX} {st : Bool} {tg iter e a b c : Expr} {es rest : List Expr} {fe fa fb : FE} {ft : FT} {fi : FI} {f : FS} {pos p np apos cpos : Pos} {ts us : List Nat} {s : Stmt}
theorem e_frz (h : E_ X G W e fe) : E_ X G W e (fFrz fe) := PE.imp (pe_lk h) fun σ H Q ⟨F, δ, P, PX, S, q, k, xk⟩ => by
  refine ⟨F, δ, _, PX, S, Tr.sat_bind.mp q, fun v F1 H1 r x1 q1 p1 => ?_, xk⟩
  have p1 : P (frzR r) := p1
  cases r with
  | oK kvs =>
    obtain ⟨p, vs, rfl, h0, h1, n, nd, l⟩ := q1
    refine .inr ⟨p, _, rfl, h1, trivial, fun od => k _ _ _ _ (Ext.lock x1 (u' := .frz od (.dK vs)) h0 h1 n nd) ?_ p1⟩
    exact RepKV.dK (l.mono (upd_grow n)) upd_same
  | oT kvs =>
    obtain ⟨p, vs, rfl, h0, h1, n, nd, l⟩ := q1
    refine .inr ⟨p, _, rfl, h1, trivial, fun od => k _ _ _ _ (Ext.lock x1 (u' := .frz od (.dT vs)) h0 h1 n nd) ?_ p1⟩
    exact RepKV.dT (l.mono (upd_grow n)) upd_same
  | ol xs =>
    obtain ⟨F2, x2, _, rd⟩ := RepR.freeze x1 q1 (d := .list xs) rfl
    exact .inl (k v F2 H1 (.im (.list xs)) x2 rd p1)
  | _ => exact .inl (k v F1 H1 _ x1 q1 p1)
/-- a local's own dict is frozen ahead of a statement -/
def sFrzDF (i : Nat) (s : FS) : FS := fun δ => match slotD δ i with
  | some (.oK kvs) => s (δ.set i (some (.im (dKD kvs))))
  | some (.oT kvs) => s (δ.set i (some (.im (dTD kvs))))
  | some (.ol xs) => s (δ.set i (some (.im (.list xs))))
  | some (.im d) => s δ
  | _ => .no
end
theorem RepS.lockD {K : PySem.W.Frag} {i : Nat} {s0 : SV} {d : D} (S : RepS K G F H σ δ) (e : δ[i]? = some (some s0)) (o : s0.owned = true) : ∃ p u, σ[i]? = some (some (.ref p)) ∧ H p = some u ∧ F p = none ∧ RepSV K G.w F H (.ref p) s0 ∧
    ∀ u', RepD K (upd F p u') (.ref p) d → RepS K G (upd F p u') (upd H p u') σ (δ.set i (some (.im d))) := by
  obtain ⟨v0, e1, r0⟩ := S.slot i _ e
  obtain ⟨p, u, rfl, h, n, nd⟩ := r0.own_at o
  have h0 := S.fresh i _ p e o e1
  refine ⟨p, u, e1, h, n, r0, fun u' rd => ?_⟩
  refine ⟨Ext.lock S.ext h0 h n nd, by rw [List.length_set]; exact S.len, fun j t ej => ?_, fun j t p' ej o' e2 => ?_, fun j k t t' p' ne ej ek o1 o2 e3 e4 => ?_⟩
  · by_cases hj : j = i
    · subst hj
      have hl : j < δ.length := (List.getElem?_eq_some_iff.mp e).1
      rw [List.getElem?_set_self hl] at ej
      cases ej
      exact ⟨_, e1, rd⟩
    · rw [List.getElem?_set_ne (Ne.symm hj)] at ej
      obtain ⟨v, e2, r⟩ := S.slot j t ej
      refine ⟨v, e2, ?_⟩
      have off : ∀ q, v = .ref q → t.owned = true → q ≠ p := fun q eq o' z => by
        subst z
        rw [eq] at e2
        exact S.apart j i t _ q hj ej e o' o e2 e1
      cases t with
      | im d => exact RepD.mono (upd_grow n) r
      | ol ys => obtain ⟨q, us, rfl, hq, nq, ndq, lq⟩ := r; exact ⟨q, us, rfl, by rw [upd_ne (off q rfl rfl)]; exact hq, by rw [upd_ne (off q rfl rfl)]; exact nq, ndq, RepL.mono (upd_grow n) lq⟩
      | oK ys => obtain ⟨q, us, rfl, hq, nq, ndq, lq⟩ := r; exact ⟨q, us, rfl, by rw [upd_ne (off q rfl rfl)]; exact hq, by rw [upd_ne (off q rfl rfl)]; exact nq, ndq, lq.mono (upd_grow n)⟩
      | oT ys => obtain ⟨q, us, rfl, hq, nq, ndq, lq⟩ := r; exact ⟨q, us, rfl, by rw [upd_ne (off q rfl rfl)]; exact hq, by rw [upd_ne (off q rfl rfl)]; exact nq, ndq, lq.mono (upd_grow n)⟩
      | drw => exact r
  · by_cases hj : j = i
    · subst hj
      have hl : j < δ.length := (List.getElem?_eq_some_iff.mp e).1
      rw [List.getElem?_set_self hl] at ej
      cases ej; cases o'
    · rw [List.getElem?_set_ne (Ne.symm hj)] at ej
      exact S.fresh j t p' ej o' e2
  · by_cases hj : j = i
    · subst hj
      have hl : j < δ.length := (List.getElem?_eq_some_iff.mp e).1
      rw [List.getElem?_set_self hl] at ej
      cases ej; cases o1
    · by_cases hk : k = i
      · subst hk
        have hl : k < δ.length := (List.getElem?_eq_some_iff.mp e).1
        rw [List.getElem?_set_self hl] at ek
        cases ek; cases o2
      · rw [List.getElem?_set_ne (Ne.symm hj)] at ej
        rw [List.getElem?_set_ne (Ne.symm hk)] at ek
        exact S.apart j k t t' p' ne ej ek o1 o2 e3 e4
section
variable {X : Cx} {G : Gd} {W : WX} {st : Bool} {tg iter e a b c : Expr} {es rest : List Expr} {fe fa fb : FE} {ft : FT} {fi : FI} {f : FS} {pos p np apos cpos : Pos} {ts us : List Nat} {s : Stmt}
theorem s_frzD {i : Nat} (h : S_ X G W s f) : S_ X G W s (sFrzDF i f) :=
  have h2 : PS X s (fun D σ H => dTS X.K G W (wS X.K f) D σ H ∨ tsLk (dTS X.K G W (wS X.K f)) D σ H) := ⟨fun pins s σ H D I hw => hw.elim (fun q => h.run pins s σ H D I q) fun q => (ps_lk h).run pins s σ H D I q⟩
  PS.imp h2 fun D σ H ⟨F, δ, E, S, q, k⟩ => by
    unfold wS sFrzDF at q
    split at q
    · rename_i kvs e
      obtain ⟨p, u, e1, hu, n, r, fin⟩ := RepS.lockD (d := dKD kvs) S (slotD_eq e) rfl
      obtain ⟨p', vs, ep, h1, n1, nd, l⟩ := r
      cases ep
      rw [h1] at hu
      cases hu
      refine .inr ⟨p, _, h1, trivial, fun od => ⟨_, _, E, fin (.frz od (.dK vs)) (RepKV.dK (l.mono (upd_grow n)) upd_same), q, k.sub (upd_grow n)⟩⟩
    · rename_i kvs e
      obtain ⟨p, u, e1, hu, n, r, fin⟩ := RepS.lockD (d := dTD kvs) S (slotD_eq e) rfl
      obtain ⟨p', vs, ep, h1, n1, nd, l⟩ := r
      cases ep
      rw [h1] at hu
      cases hu
      refine .inr ⟨p, _, h1, trivial, fun od => ⟨_, _, E, fin (.frz od (.dT vs)) (RepKV.dT (l.mono (upd_grow n)) upd_same), q, k.sub (upd_grow n)⟩⟩
    · rename_i xs e
      obtain ⟨F2, z, S2⟩ := S.freeze (slotD_eq e)
      exact .inl ⟨F2, _, E, S2, q, k.sub z⟩
    · exact .inl ⟨F, δ, E, S, q, k⟩
    · exact q.elim
end
end
end FW
set_option Elab.async false
set_option linter.all false
set_option maxRecDepth 100000
set_option maxHeartbeats 4000000
/-! enumerate and zip over lists, tuples, texts -/
namespace DW
open PySem PySem.Spec L2 PyProof.Rows
inductive Src where
  | l (a : Addr)
  | t (a : Addr)
  | s (x : Str)
def Src.val : Src → V
  | .l a => .ref a
  | .t a => .ref a
  | .s x => .str x
def sgV (x : Str) : List V := x.cps.toList.map fun c => V.str ⟨#[c]⟩
theorem sgV_len {x : Str} : (sgV x).length = x.cps.size := by unfold sgV; simp
def Src.at (K : PySem.W.Frag) (H : Hp) : Src → List V → Prop
  | .l a, vs => SqL K H a vs
  | .t a, vs => SqT K H a vs
  | .s x, vs => vs = sgV x
def Src.lt (n : Nat) : Src → Prop
  | .l a => a < n
  | .t a => a < n
  | .s _ => True
def Src.itr (it : Addr) (i : Nat) (h : Heap) : Src → Prop
  | .l a => h.IsListIter it a i
  | .t a => h.IsTupleIter it a i
  | .s x => ∃ t, h.IsStrIter it (strIterType x) x t i
theorem Src.itr_obj {q : Src} {it : Addr} {i : Nat} {h : Heap} (e : q.itr it i h) : ∃ o, h.get? it = some o ∧ ∀ v, o.data ≠ .cell v := by
  cases q with
  | l a => obtain ⟨o, e, _, d⟩ := e; exact ⟨o, e, fun v z => by rw [d] at z; cases z⟩
  | t a => obtain ⟨o, e, _, d⟩ := e; exact ⟨o, e, fun v z => by rw [d] at z; cases z⟩
  | s x => obtain ⟨t, o, e, _, d⟩ := e; exact ⟨o, e, fun v z => by rw [d] at z; cases z⟩
theorem Src.itr_keep {q : Src} {it : Addr} {i : Nat} {h h' : Heap} (e : q.itr it i h) (k : ∀ o, h.get? it = some o → h'.get? it = some o) : q.itr it i h' := by
  cases q with
  | l a => obtain ⟨o, e, r⟩ := e; exact ⟨o, k o e, r⟩
  | t a => obtain ⟨o, e, r⟩ := e; exact ⟨o, k o e, r⟩
  | s x => obtain ⟨t, o, e, r⟩ := e; exact ⟨t, o, k o e, r⟩
section
variable {X : Cx} {pins : List (Addr × Obj)} {σ : L2.St} {H : Hp} {s : Shared}
theorem Src.draws (I : Inv X pins σ H s) (hc : X.calm = true) {q : Src} {vs : List V} (hq : q.at X.K H vs) {it : Addr} {i n : Nat} (hi : q.itr it i s.heap) (hl : q.lt n) (hn : n ≤ it) :
    ∃ fp P St, Draws X.prog X.w X.A.in1 it fp vs.length P St ∧ it ∈ fp ∧ (∀ c, n ≤ c → c ≠ it → c ∉ fp) ∧ St i s.heap ∧ (∀ j h, St j h → q.itr it j h) ∧ ∀ j v, P j v → ∃ x, vs[j]? = some x ∧ RelV x v := by
  have hh : X.A.in1.handled = none := I.ok.hd hc
  cases q with
  | l a =>
    obtain ⟨its, rv, p, hz⟩ := I.list hq
    have hne : a ≠ it := Nat.ne_of_lt (Nat.lt_of_lt_of_le hl hn)
    have e : its.toArray.size = vs.length := by have := rv.length; simp; omega
    refine ⟨_, _, _, e ▸ Draws.list (prog := X.prog) (w := X.w) hh it a hne its.toArray, by simp, fun c h1 h2 h3 => ?_, ⟨hi, p.isList⟩, fun j h q => q.1, fun j v q => ?_⟩
    · rcases List.mem_cons.mp h3 with z | z
      · exact h2 z
      · rw [List.mem_singleton.mp z] at h1; exact absurd hl (Nat.not_lt.mpr h1)
    · have q' : its[j]? = some v := by simpa using q
      have hj : j < vs.length := by have := (List.getElem?_eq_some_iff.mp q').1; have := rv.length; omega
      obtain ⟨u, hu, ru⟩ := rv.get (List.getElem?_eq_getElem hj)
      rw [q'] at hu; cases hu
      exact ⟨_, List.getElem?_eq_getElem hj, ru⟩
  | t a =>
    obtain ⟨its, rv, p, hz⟩ := I.tuple hq
    have hne : a ≠ it := Nat.ne_of_lt (Nat.lt_of_lt_of_le hl hn)
    have e : its.toArray.size = vs.length := by have := rv.length; simp; omega
    refine ⟨_, _, _, e ▸ Draws.tuple (prog := X.prog) (w := X.w) hh it a hne its.toArray, by simp, fun c h1 h2 h3 => ?_, ⟨hi, p⟩, fun j h q => q.1, fun j v q => ?_⟩
    · rcases List.mem_cons.mp h3 with z | z
      · exact h2 z
      · rw [List.mem_singleton.mp z] at h1; exact absurd hl (Nat.not_lt.mpr h1)
    · have q' : its[j]? = some v := by simpa using q
      have hj : j < vs.length := by have := (List.getElem?_eq_some_iff.mp q').1; have := rv.length; omega
      obtain ⟨u, hu, ru⟩ := rv.get (List.getElem?_eq_getElem hj)
      rw [q'] at hu; cases hu
      exact ⟨_, List.getElem?_eq_getElem hj, ru⟩
  | s x =>
    obtain ⟨t, hi⟩ := hi
    have e0 : vs = sgV x := hq
    have e : x.cps.size = vs.length := by rw [e0, sgV_len]
    refine ⟨_, _, _, e ▸ Draws.text (prog := X.prog) (w := X.w) hh it x t, by simp, fun c h1 h2 h3 => h2 (List.mem_singleton.mp h3), hi, fun j h q => ⟨t, q⟩, fun j v q => ?_⟩
    obtain ⟨c, u, hcx, rfl⟩ := q
    refine ⟨.str ⟨#[c]⟩, ?_, ⟨u, rfl⟩⟩
    rw [e0]
    unfold sgV
    have hcx' : x.cps.toList[j]? = some c := by simpa using hcx
    rw [List.getElem?_map, hcx']
    rfl
/-- .. begins -/
theorem Src.begins (I : Inv X pins σ H s) {q : Src} {vs : List V} (hq : q.at X.K H vs) {v : Value} (rv : RelV q.val v) : ∃ o Hs, Begins v o Hs ∧ Hs s.heap ∧ ∀ it (h : Heap), h.get? it = some o → q.itr it 0 h := by
  cases q with
  | l a =>
    obtain ⟨its, _, p, hz⟩ := I.list hq
    cases rv
    exact ⟨_, _, begins_list a its.toArray, p.isList, fun it h e => ⟨_, e, rfl, rfl⟩⟩
  | t a =>
    obtain ⟨its, _, p, hz⟩ := I.tuple hq
    cases rv
    exact ⟨_, _, begins_tuple a its.toArray, p, fun it h e => ⟨_, e, rfl, rfl⟩⟩
  | s x =>
    obtain ⟨t, rfl⟩ := rv
    exact ⟨_, _, begins_text x t, trivial, fun it h e => ⟨t, _, e, rfl, rfl⟩⟩
theorem Src.below (I : Inv X pins σ H s) {q : Src} {vs : List V} (hq : q.at X.K H vs) : q.lt s.heap.objs.size := by
  cases q with
  | l a => obtain ⟨its, _, p, hz⟩ := I.list hq; exact p.lt
  | t a => obtain ⟨its, _, p, hz⟩ := I.tuple hq; obtain ⟨o, e, _⟩ := p; exact Heap.lt_size e
  | s x => trivial
end

/-! ### enumerate -/
def IteG (K : PySem.W.Frag) (q : Src) (vs : List V) : It :=
  ⟨fun i H => i < vs.length ∧ q.at K H vs, fun i H v H' => ∃ T x, v = .ref T ∧ H T = none ∧ H' = upd H T (.tup [.int (i : Nat), x]) ∧ vs[i]? = some x, fun i H => vs.length ≤ i ∧ q.at K H vs⟩
theorem turn_enumG {P : Program} {w : World} {K : PySem.W.Frag} {elts : List Expr} {kk : Nat} {tpos : Pos} (q : Src) (vs : List V) (it : Addr) (hl : q.lt it) :
    Turn P w K (.Tuple elts kk tpos) (IteG K q vs) [it + 1, it] (it + 1) (fun i h => i ≤ vs.length ∧ (∃ old, IsEnum h (it + 1) it ((i : Nat) : Int) old) ∧ q.itr it i h) where
  mem := by simp
  obj := fun i h st b hb => by
    obtain ⟨_, ⟨old, he⟩, hi⟩ := st
    have e' : b = it + 1 ∨ b = it := by simpa using hb
    rcases e' with z | z
    · rw [z]; exact ⟨_, he, fun v q => nomatch q⟩
    · rw [z]; exact Src.itr_obj hi
  keep := fun i h h' st k => let ⟨hn, ⟨old, he⟩, hi⟩ := st; ⟨hn, ⟨old, k (it + 1) (by simp) _ he⟩, Src.itr_keep hi fun o q => k it (by simp) o q⟩
  item := by
    intro X hP hw hK hc i pins s σ H E I hf st hg
    subst hP hw hK
    obtain ⟨_, ⟨old, he⟩, hit⟩ := st
    obtain ⟨hlt, hq⟩ := hg
    obtain ⟨fp, P, St, D, hif, hout, hst, hitr, hP⟩ := q.draws I hc hq hit hl (Nat.le_refl _)
    have hne : it + 1 ≠ it := Nat.succ_ne_self _
    have hel : it + 1 < s.heap.objs.size := Heap.lt_size he
    have hil : it < s.heap.objs.size := Nat.lt_of_succ_lt hel
    refine wpAny_pyNext_enum_itemD D he hst hlt hne (hout _ (Nat.le_succ _) hne) fun x h' tk hPx ho hst' hT hsz hk => ?_
    obtain ⟨y, hy, ry⟩ := hP _ _ hPx
    refine ⟨_, rfl, wpAny_letOwnedTupleGo_enum (s := { s with heap := h', toks := tk + 1 }) ho fun h'' he' sb => ?_⟩
    have hT2 : h''.get? s.heap.objs.size = some { cls := .type "tuple", data := .seq #[.int i tk, x] } := (sb.2 _ (Nat.ne_of_gt hel)).trans hT
    have new : ObjOk X.prog X.w (upd H s.heap.objs.size (.tup [.int (i : Nat), y])) h'' s.heap.objs.size (.tup [.int (i : Nat), y]) :=
      ⟨by show 2 ≤ sizeLine; decide, [.int i tk, x], .cons ⟨_, rfl⟩ (.cons ry .nil), ⟨_, hT2, rfl, _, rfl⟩⟩
    have I1 : Inv X pins σ (upd H s.heap.objs.size (.tup [.int (i : Nat), y])) { s with heap := h'', toks := tk + 1 } :=
      I.turnedNew (ch := [it + 1, it]) (fun b ob hb q => (sb.2 b (fun z => hb (by simp [z]))).trans (hk b ob (fun z => hb (by simp [z])) (fun z => hb (by simp [z])) q)) hf (Nat.le_refl _) new
    refine ⟨.ref s.heap.objs.size, _, I1, rfl, ⟨_, y, rfl, I.hok.fresh (Nat.le_refl _), rfl, hy⟩, ⟨hlt, ⟨x, ?_⟩, Src.itr_keep (hitr _ _ hst') fun o q => (sb.2 it (Ne.symm hne)).trans q⟩, fun b hb => ?_⟩
    · have e1 : ((i + 1 : Nat) : Int) = (i : Int) + 1 := by omega
      rw [e1]; exact he'
    · have hb' : b < s.heap.objs.size := by
        have e' : b = it + 1 ∨ b = it := by simpa using hb
        rcases e' with z | z
        · rw [z]; exact hel
        · rw [z]; exact hil
      rw [upd_ne (Nat.ne_of_lt hb')]
      exact (hf b hb).1
  done := by
    intro X hP hw hK hc i pins s σ H E I hf st hg
    subst hP hw hK
    obtain ⟨hle, ⟨old, he⟩, hit⟩ := st
    obtain ⟨hge, hq⟩ := hg
    have e : i = vs.length := Nat.le_antisymm hle hge
    obtain ⟨fp, P, St, D, hif, hout, hst, hitr, hP⟩ := q.draws I hc hq hit hl (Nat.le_refl _)
    obtain ⟨f0, f1, f2, f3, f4, f5⟩ := hf it (by simp)
    exact wpAny_pyNext_enum_endD D he (e ▸ hst) fun h' eb => ⟨rfl, I.turned (t' := s.toks) (fun b o hb q => eb b o hb q) f0 f1 f3 f4 f5⟩
  self := fun A i s Q E st h => let ⟨_, ⟨_, he⟩, _⟩ := st; wpAny_pyIter_enum he h
set_option maxHeartbeats 1000000 in
theorem meets_enumerate_newB1 {v : Value} {o : Obj} {H : Heap → Prop} (B : Begins v o H) :
    Meets (Builtin.«enumerate.__new__» ⟨[.type "enumerate", v], []⟩) (fun _ R s => H s.heap ∧
      R (.ok (.ret (.ref (s.heap.push o).objs.size))) { s with heap := (s.heap.push o).push { cls := .type "enumerate", data := .fields #[.none, .bool false, .ref s.heap.objs.size, rawInt 0, .none, .none] } }) :=
  .of_wp fun prog w A R s h => by
    obtain ⟨hp, g, d, tk, os⟩ := s; obtain ⟨h1, h⟩ := h
    have hsub := sub_enumerate
    have q1 : ∀ {A' : Around} {E : Value → Shared → Prop} {Q : Value → Shared → Prop}, Q (.ref hp.objs.size) ⟨hp.push o, g, d, tk, os⟩ → wpAny (model prog w) A' (pyIter v) Q E ⟨hp, g, d, tk, os⟩ :=
      fun q => B.iter prog w _ _ ⟨hp, g, d, tk, os⟩ _ h1 q
    wp_walk using q1
    refine wpAny_stack_any fun st => wpAny_pure ?_
    split
    · rename_i c _ _ _ _ _
      cases (c == Value.type "enumerate")
      · wp_walk using q1
        exact ⟨_, rfl, h⟩
      · wp_walk using q1
        exact ⟨_, rfl, h⟩
    · wp_walk using q1
      exact ⟨_, rfl, h⟩
theorem enum_begins1 {prog : Program} {w : World} {A : Around} {E : Value → Shared → Prop} {s : Shared} {v : Value} {o : Obj} {H : Heap → Prop} {Q : Value → Shared → Prop} (B : Begins v o H) (h1 : H s.heap)
    (h : ∀ h', IsEnum h' (s.heap.objs.size + 1) s.heap.objs.size 0 .none → h'.get? s.heap.objs.size = some o → h'.objs.size = s.heap.objs.size + 2 →
      (∀ b o, s.heap.get? b = some o → h'.get? b = some o) → Q (.ref (s.heap.objs.size + 1)) { s with heap := h' }) :
    wpAny (model prog w) A (call (.type "enumerate") [v]) Q E s := by
  refine callType_new F.called_enumerate (by decide) (F.typeCall_enumerate_1 _) (F.newCall_enumerate_1 _) (fun obj => F.args_object_init_2 obj _) F.entry_enumerate_new
    (meets_enumerate_newB1 B) ⟨h1, ?_⟩
  have hz : (s.heap.push o).objs.size = s.heap.objs.size + 1 := Heap.size_push ..
  show _ ∧ _
  rw [hz]
  have he : IsEnum ((s.heap.push o).push { cls := .type "enumerate", data := .fields #[.none, .bool false, .ref s.heap.objs.size, rawInt 0, .none, .none] }) (s.heap.objs.size + 1) s.heap.objs.size 0 .none := by
    have := Heap.get?_push_size (s.heap.push o) (o := { cls := .type "enumerate", data := .fields #[.none, .bool false, .ref s.heap.objs.size, rawInt 0, .none, .none] }) rfl
    rw [hz] at this; exact this
  refine ⟨⟨_, he, rfl⟩, h _ he (Heap.get?_push_of_some _ (Heap.get?_push_size _ B.free)) (by rw [Heap.size_push, hz]) fun b o x => Heap.get?_push_of_some _ (Heap.get?_push_of_some _ x)⟩
def iEnumG (K : PySem.W.Frag) (ta : TA) : TI := fun σ H R => ta σ H fun vs H1 => ∃ q us, vs = [Src.val q] ∧ q.at K H1 us ∧ R (IteG K q us) H1
theorem pi_enumG {X : Cx} {e : Expr} {ta : TA} {p pos tpos : Pos} {elts : List Expr} {kk : Nat} (hg : Gl X "enumerate") (hm : X.mg "enumerate" = none) (ha : PA X [e] ta) (hs : starEach [e] X.env = [(false, eval e X.env)] := by rfl) :
    PI X (.Tuple elts kk tpos) (.Call (.Name "enumerate" p) [e] [] pos) (iEnumG X.K ta) := by
  refine ⟨fun pins s σ H R I h => ?_⟩
  refine Call_ (ld_blt I hg hm boot_enumerate (PyProof.Rows.callWith_type1 (thn (ha.run pos pins s σ H _ I h) fun us s1 ⟨vs, H1, I1, r1, q1⟩ => ?_) hs rfl))
  obtain ⟨q, xs, ex, hq, qq⟩ := q1
  subst ex
  cases r1 with
  | cons r rr =>
    cases rr
    obtain ⟨o, Hs, B, hB, hi0⟩ := q.begins I1 hq r
    refine enum_begins1 B hB fun h' he ho hsz hk => wpAny_pyIter_enum he ?_
    have I2 : Inv X pins σ H1 { s1 with heap := h' } := I1.kept (t' := s1.toks) hk
    refine ⟨s1.heap.objs.size + 1, [s1.heap.objs.size + 1, s1.heap.objs.size], _, _, H1, rfl, I2, turn_enumG q xs s1.heap.objs.size (q.below I1 hq), ⟨Nat.zero_le _, ⟨.none, he⟩, hi0 _ _ ho⟩, fun b hb => ?_, qq⟩
    have e' : b = s1.heap.objs.size + 1 ∨ b = s1.heap.objs.size := by simpa using hb
    have hle : s1.heap.objs.size ≤ b := by
      rcases e' with z | z
      · rw [z]; exact Nat.le_add_right _ _
      · rw [z]; exact Nat.le_refl _
    exact I1.fpOk hle (I1.hok.fresh hle)
/-! ### zip -/
def ItzG (K : PySem.W.Frag) (q1 q2 : Src) (vs1 vs2 : List V) : It :=
  ⟨fun i H => i < vs1.length ∧ i < vs2.length ∧ q1.at K H vs1 ∧ q2.at K H vs2, fun i H v H' => ∃ T x y, v = .ref T ∧ H T = none ∧ H' = upd H T (.tup [x, y]) ∧ vs1[i]? = some x ∧ vs2[i]? = some y,
    fun i H => (vs1.length ≤ i ∨ vs2.length ≤ i) ∧ q1.at K H vs1 ∧ q2.at K H vs2⟩
theorem zsep {n : Nat} {fp1 fp2 : List Addr} (m1 : n ∈ fp1) (m2 : n + 1 ∈ fp2) (o1 : ∀ c, n ≤ c → c ≠ n → c ∉ fp1) (o2 : ∀ c, n ≤ c → c ≠ n + 1 → c ∉ fp2) : ZipSep2 (n + 4) (n + 2) (n + 3) n (n + 1) fp1 fp2 where
  TIz := Nat.ne_of_lt (by omega)
  TOz := Nat.ne_of_lt (by omega)
  TITO := Nat.ne_of_lt (by omega)
  TIi1 := Nat.ne_of_gt (by omega)
  mem1 := m1
  zf1 := o1 _ (by omega) (Nat.ne_of_gt (by omega))
  Tf1 := o1 _ (by omega) (Nat.ne_of_gt (by omega))
  TIi2 := Nat.ne_of_gt (by omega)
  mem2 := m2
  zf2 := o2 _ (by omega) (Nat.ne_of_gt (by omega))
  Tf2 := o2 _ (by omega) (Nat.ne_of_gt (by omega))
  sep1_2 := o2 _ (by omega) (Nat.ne_of_lt (by omega))
  sep2_1 := o1 _ (by omega) (Nat.ne_of_gt (by omega))
theorem mem5 {n : Nat} {c : Addr} : c ∈ [n + 4, n + 2, n + 3, n, n + 1] ↔ c = n + 4 ∨ c = n + 2 ∨ c = n + 3 ∨ c = n ∨ c = n + 1 := by simp
theorem turn_zipG {P : Program} {w : World} {K : PySem.W.Frag} {elts : List Expr} {kk : Nat} {tpos : Pos} (q1 q2 : Src) (vs1 vs2 : List V) (n : Nat) (hl1 : q1.lt n) (hl2 : q2.lt n) :
    Turn P w K (.Tuple elts kk tpos) (ItzG K q1 q2 vs1 vs2) [n + 4, n + 2, n + 3, n, n + 1] (n + 4) (fun i h => i ≤ vs1.length ∧ i ≤ vs2.length ∧ IsZip h (n + 4) (n + 2) (n + 3) .none ∧ IsTupOf2 h (n + 2) (.ref n) (.ref (n + 1)) ∧ (∃ x y, IsTupOf2 h (n + 3) x y) ∧ q1.itr n i h ∧ q2.itr (n + 1) i h) where
  mem := by simp
  obj := fun i h st c hc => by
    obtain ⟨_, _, hz, hTI, ⟨x, y, hTO⟩, h1, h2⟩ := st
    rcases mem5.mp hc with q | q | q | q | q
    · rw [q]; exact ⟨_, hz, fun v q => nomatch q⟩
    · rw [q]; exact ⟨_, hTI, fun v q => nomatch q⟩
    · rw [q]; exact ⟨_, hTO, fun v q => nomatch q⟩
    · rw [q]; exact Src.itr_obj h1
    · rw [q]; exact Src.itr_obj h2
  keep := fun i h h' st k => by
    obtain ⟨l1, l2, hz, hTI, ⟨x, y, hTO⟩, h1, h2⟩ := st
    exact ⟨l1, l2, k _ (by simp) _ hz, k _ (by simp) _ hTI, ⟨x, y, k _ (by simp) _ hTO⟩, Src.itr_keep h1 fun o q => k n (by simp) o q, Src.itr_keep h2 fun o q => k (n + 1) (by simp) o q⟩
  item := by
    intro X hP hw hK hc i pins s σ H E I hf st hg
    subst hP hw hK
    obtain ⟨_, _, hz, hTI, ⟨x0, y0, hTO⟩, h1, h2⟩ := st
    obtain ⟨lt1, lt2, hq1, hq2⟩ := hg
    obtain ⟨fp1, P1, St1, D1, m1, o1, st1, it1, r1⟩ := q1.draws I hc hq1 h1 hl1 (Nat.le_refl _)
    obtain ⟨fp2, P2, St2, D2, m2, o2, st2, it2, r2⟩ := q2.draws I hc hq2 h2 hl2 (Nat.le_succ _)
    have S := zsep m1 m2 o1 o2
    have hzl : n + 4 < s.heap.objs.size := Heap.lt_size hz
    refine wpAny_pyNext_zipD2_item S D1 D2 hz hTI hTO st1 st2 lt1 lt2 fun x1 x2 h' tk p1 p2 z' TO' st1' st2' hT hsz hk => ?_
    obtain ⟨y1, hy1, ry1⟩ := r1 _ _ p1
    obtain ⟨y2, hy2, ry2⟩ := r2 _ _ p2
    refine ⟨_, rfl, wpAny_letOwnedTupleGo_zip (s := { s with heap := h', toks := tk }) z' fun h'' z'' sb => ?_⟩
    have hT2 : h''.get? s.heap.objs.size = some { cls := .type "tuple", data := .seq #[x1, x2] } := (sb.2 _ (Nat.ne_of_gt hzl)).trans hT
    have new : ObjOk X.prog X.w (upd H s.heap.objs.size (.tup [y1, y2])) h'' s.heap.objs.size (.tup [y1, y2]) :=
      ⟨by show 2 ≤ sizeLine; decide, [x1, x2], .cons ry1 (.cons ry2 .nil), ⟨_, hT2, rfl, _, rfl⟩⟩
    have I1 : Inv X pins σ (upd H s.heap.objs.size (.tup [y1, y2])) { s with heap := h'', toks := tk } :=
      I.turnedNew (ch := [n + 4, n + 2, n + 3, n, n + 1]) (fun c o hb q => (sb.2 c (fun q' => hb (by simp [q']))).trans (hk c o (fun q' => hb (by simp [q'])) (fun q' => hb (by simp [q'])) (fun q' => hb (by simp [q'])) (fun q' => hb (by simp [q'])) q)) hf (Nat.le_refl _) new
    refine ⟨.ref s.heap.objs.size, _, I1, rfl, ⟨_, y1, y2, rfl, I.hok.fresh (Nat.le_refl _), rfl, hy1, hy2⟩, ⟨lt1, lt2, z'', ?_, ⟨x1, x2, ?_⟩, ?_, ?_⟩, fun c hcm => ?_⟩
    · exact (sb.2 _ S.TIz).trans (hk _ _ S.TIz S.TITO S.TIi1 S.TIi2 hTI)
    · exact (sb.2 _ S.TOz).trans TO'
    · exact Src.itr_keep (it1 _ _ st1') fun o q => (sb.2 _ (Ne.symm S.zi1)).trans q
    · exact Src.itr_keep (it2 _ _ st2') fun o q => (sb.2 _ (Ne.symm S.zi2)).trans q
    · have hlt : c < s.heap.objs.size := by
        have hzl' : n + 4 < s.heap.objs.size := hzl
        rcases mem5.mp hcm with q | q | q | q | q
        · rw [q]; exact hzl
        · rw [q]; exact Nat.lt_of_le_of_lt (by omega) hzl'
        · rw [q]; exact Nat.lt_of_le_of_lt (by omega) hzl'
        · rw [q]; exact Nat.lt_of_le_of_lt (by omega) hzl'
        · rw [q]; exact Nat.lt_of_le_of_lt (by omega) hzl'
      rw [upd_ne (Nat.ne_of_lt hlt)]
      exact (hf c hcm).1
  done := by
    intro X hP hw hK hc i pins s σ H E I hf st hg
    subst hP hw hK
    obtain ⟨le1, le2, hz, hTI, ⟨x0, y0, hTO⟩, h1, h2⟩ := st
    obtain ⟨hend, hq1, hq2⟩ := hg
    obtain ⟨fp1, P1, St1, D1, m1, o1, st1, it1, r1⟩ := q1.draws I hc hq1 h1 hl1 (Nat.le_refl _)
    obtain ⟨fp2, P2, St2, D2, m2, o2, st2, it2, r2⟩ := q2.draws I hc hq2 h2 hl2 (Nat.le_succ _)
    have S := zsep m1 m2 o1 o2
    have hen : i = vs1.length ∨ i = vs2.length := hend.elim (fun h => .inl (Nat.le_antisymm le1 h)) fun h => .inr (Nat.le_antisymm le2 h)
    exact wpAny_pyNext_zipD2_end S D1 D2 hz hTI hTO st1 st2 le1 le2 hen fun h' tk hk => ⟨rfl, I.turnedL (ch := [n + 4, n + 2, n + 3, n, n + 1]) (fun c o hb q =>
      hk c o (fun q' => hb (by simp [q'])) (fun q' => hb (by simp [q'])) (fun q' => hb (by simp [q'])) (fun q' => hb (by simp [q'])) q) hf⟩
  self := fun A i s Q E st h => wpAny_pyIter_zip st.2.2.1 h
def iZipG (K : PySem.W.Frag) (ta : TA) : TI := fun σ H R => ta σ H fun vs H1 => ∃ q1 q2 us1 us2, vs = [Src.val q1, Src.val q2] ∧ q1.at K H1 us1 ∧ q2.at K H1 us2 ∧ R (ItzG K q1 q2 us1 us2) H1
theorem pi_zipG {X : Cx} {e e2 : Expr} {ta : TA} {p pos tpos : Pos} {elts : List Expr} {kk : Nat} (hg : Gl X "zip") (hm : X.mg "zip" = none) (ha : PA X [e, e2] ta)
    (hs : starEach [e, e2] X.env = (false, eval e X.env) :: starEach [e2] X.env := by rfl) (hpl : (backTo pos (starEach [e2] X.env)).any (·.1) = false := by rfl) :
    PI X (.Tuple elts kk tpos) (.Call (.Name "zip" p) [e, e2] [] pos) (iZipG X.K ta) := by
  refine ⟨fun pins s σ H R I h => ?_⟩
  refine Call_ (ld_blt I hg hm PyProof.Rows.boot_zip (PyProof.Rows.callWith_type1 (thn (ha.run pos pins s σ H _ I h) fun us s1 ⟨vs, H1, I1, r1, q1⟩ => ?_) hs hpl))
  obtain ⟨q1, q2, xs, ys, ex, hq1, hq2, qq⟩ := q1
  subst ex
  cases r1 with
  | cons r rr =>
    cases rr with
    | cons r' rr =>
      cases rr
      obtain ⟨o1, Hs1, B1, hB1, hi1⟩ := q1.begins I1 hq1 r
      obtain ⟨o2, Hs2, B2, hB2, hi2⟩ := q2.begins I1 hq2 r'
      refine zip_begins2 B1 B2 hB1 hB2 fun h' hz hTI hTO h1 h2 hsz hk => wpAny_pyIter_zip hz ?_
      have I2 : Inv X pins σ H1 { s1 with heap := h' } := I1.kept (t' := s1.toks) hk
      refine ⟨s1.heap.objs.size + 4, [s1.heap.objs.size + 4, s1.heap.objs.size + 2, s1.heap.objs.size + 3, s1.heap.objs.size, s1.heap.objs.size + 1], _, _, H1, rfl, I2, turn_zipG q1 q2 xs ys s1.heap.objs.size (q1.below I1 hq1) (q2.below I1 hq2), ⟨Nat.zero_le _, Nat.zero_le _, hz, hTI, ⟨_, _, hTO⟩, hi1 _ _ h1, hi2 _ _ h2⟩, fun c hcm => ?_, qq⟩
      have hle : s1.heap.objs.size ≤ c := by
        rcases mem5.mp hcm with z | z | z | z | z
        · rw [z]; exact Nat.le_add_right _ _
        · rw [z]; exact Nat.le_add_right _ _
        · rw [z]; exact Nat.le_add_right _ _
        · rw [z]; exact Nat.le_refl _
        · rw [z]; exact Nat.le_add_right _ _
      exact I1.fpOk hle (I1.hok.fresh hle)
/-! ### as data -/
def seqD : R → Option (List D)
  | .im (.list xs) => some xs
  | .im (.tuple xs) => some xs
  | .im (.str s) => some (signs s)
  | .ol xs => some xs
  | _ => none
theorem sgs_rep {K : PySem.W.Frag} {F : Hp} {x : Str} : RepL K F (sgV x) (signs x) := by
  unfold sgV signs
  generalize x.cps.toList = l
  induction l with
  | nil => exact .nil
  | cons c l ih => exact .cons (.str _) ih
theorem RepR.seqS {K : PySem.W.Frag} {w : Option Dw} {F F1 H H1 : Hp} {v : V} {r : R} (x : Ext w F H F1 H1) (q : RepR K w H F1 H1 v r) {xs : List D} (e : seqD r = some xs) :
    ∃ F2 vs sq, Ext w F H F2 H1 ∧ Sub F1 F2 ∧ v = Src.val sq ∧ RepL K F2 vs xs ∧ ∀ H', Sub F2 H' → sq.at K H' vs := by
  cases r with
  | im d =>
    cases d with
    | list ys =>
      have z : ys = xs := Option.some.inj e
      subst z
      cases q with
      | lst h l => exact ⟨F1, _, .l _, x, Sub.refl, rfl, l, fun H' le => .inl (.inl (le _ _ h))⟩
    | tuple ys =>
      have z : ys = xs := Option.some.inj e
      subst z
      obtain ⟨a, us, rfl, ha, la⟩ := q.tuple x.le (xs := ys) rfl
      exact ⟨F1, us, .t a, x, Sub.refl, rfl, la, fun H' le => .inl (.inl (le _ _ ha))⟩
    | str s =>
      have z : signs s = xs := Option.some.inj e
      subst z
      cases q
      exact ⟨F1, _, .s s, x, Sub.refl, rfl, sgs_rep, fun H' le => rfl⟩
    | _ => cases e
  | ol ys =>
    have z : ys = xs := Option.some.inj e
    subst z
    obtain ⟨F2, x2, s2, rd⟩ := q.freeze x (d := .list ys) rfl
    cases rd with
    | lst h l => exact ⟨F2, _, .l _, x2, s2, rfl, l, fun H' le => .inl (.inl (le _ _ h))⟩
  | _ => cases e
section
variable {K : PySem.W.Frag} {G : Gd} {F F1 F2 H H1 H2 : Hp} {σ : L2.St} {δ : DEnv}
variable {X : Cx} {W : WX} {st : Bool} {tg e a b c : Expr} {es rest : List Expr} {we wa wb wc : WE'} {wt wu : WT} {waa : WA} {pos p : Pos}
theorem walkEG {w : Option Dw} {q : Src} {vs : List V} {xs : List D} {F0 : Hp} (l : RepL K F0 vs xs) (hq : ∀ H', Sub F0 H' → q.at K H' vs) : DWalk K w (fun F H => Sub F0 F ∧ Sub F H) (IteG K q vs) (enums xs) := by
  intro F H ⟨s0, le⟩ x0
  refine ⟨fun i hi => ?_, ⟨by rw [RepL.length l, enums_len]; exact Nat.le_refl _, hq _ (s0.trans le)⟩, fun i x H' d e y => ?_⟩
  · have hi' : i < vs.length := by rw [RepL.length l, ← enums_len]; exact hi
    exact ⟨hi', hq _ (s0.trans le)⟩
  · obtain ⟨T, z, rfl, hT, rfl, y⟩ := y
    obtain ⟨dy, ey, rfl⟩ := enums_at e
    obtain ⟨v, e1, rv⟩ := RepL.get l ey
    rw [e1] at y
    cases y
    have x1 := x0.laid (u := .tup [.int (i : Nat), z]) hT
    exact ⟨_, x1, .tup upd_same (.cons (.int _) (.cons (RepD.mono (s0.trans x1.fs) rv) .nil))⟩
def wiEG (wa : WA) : WI := fun δ P PX => wa δ (fun rs => ∃ r xs, rs = [r] ∧ seqD r = some xs ∧ P (enums xs)) PX
theorem di_enumG {elts : List Expr} {kk : Nat} {tpos : Pos} (hg : Gl X "enumerate") (hm : X.mg "enumerate" = none) (ha : DA X G W [e] waa) (hs : starEach [e] X.env = [(false, eval e X.env)] := by rfl) :
    DI X G W true (.Tuple elts kk tpos) (.Call (.Name "enumerate" p) [e] [] pos) (wiEG waa) :=
  PI.imp (pi_enumG hg hm ha hs) fun σ H R ⟨F, δ, P, PX, S, q, k, xk⟩ => by
    refine ⟨F, δ, _, PX, S, q, fun vs F1 H1 rs x1 q1 ⟨r, xs, e, ed, p1⟩ => ?_, xk⟩
    subst e
    cases q1 with
    | cons rr t =>
      cases t
      obtain ⟨F2, us, sq, x2, s2, ev, l, hq⟩ := rr.seqS x1 ed
      refine ⟨sq, us, by rw [ev], hq _ x2.le, k _ (fun F H => Sub F2 F ∧ Sub F H) F2 H1 _ x2 ⟨Sub.refl, x2.le⟩ (walkEG l hq) ?_ p1⟩
      exact fun F H F' H' ⟨s0, le⟩ s1 s2 => ⟨s0.trans s1, s2⟩
def zips (xs ys : List D) : List D := List.zipWith (fun a b => .tuple [a, b]) xs ys
theorem walkZG {w : Option Dw} {q1 q2 : Src} {vs ws : List V} {xs ys : List D} {F0 : Hp} (l1 : RepL K F0 vs xs) (l2 : RepL K F0 ws ys) (hq1 : ∀ H', Sub F0 H' → q1.at K H' vs) (hq2 : ∀ H', Sub F0 H' → q2.at K H' ws) :
    DWalk K w (fun F H => Sub F0 F ∧ Sub F H) (ItzG K q1 q2 vs ws) (zips xs ys) := by
  intro F H ⟨s0, le⟩ x0
  have e0 : (zips xs ys).length = min vs.length ws.length := by unfold zips; rw [List.length_zipWith, RepL.length l1, RepL.length l2]
  refine ⟨fun i hi => ?_, ⟨by rw [e0]; omega, hq1 _ (s0.trans le), hq2 _ (s0.trans le)⟩, fun i x H' d e y => ?_⟩
  · rw [e0] at hi
    exact ⟨by omega, by omega, hq1 _ (s0.trans le), hq2 _ (s0.trans le)⟩
  · obtain ⟨T, z1, z2, rfl, hT, rfl, y1, y2⟩ := y
    unfold zips at e
    rw [List.getElem?_zipWith] at e
    obtain ⟨d1, e1, r1⟩ := RepL.get' l1 y1
    obtain ⟨d2, e2, r2⟩ := RepL.get' l2 y2
    rw [e1, e2] at e
    cases e
    have x1 := x0.laid (u := .tup [z1, z2]) hT
    exact ⟨_, x1, .tup upd_same (.cons (RepD.mono (s0.trans x1.fs) r1) (.cons (RepD.mono (s0.trans x1.fs) r2) .nil))⟩
def wiZG (wa : WA) : WI := fun δ P PX => wa δ (fun rs => ∃ r1 r2 xs ys, rs = [r1, r2] ∧ seqD r1 = some xs ∧ seqD r2 = some ys ∧ P (zips xs ys)) PX
theorem di_zipG {elts : List Expr} {kk : Nat} {tpos : Pos} (hg : Gl X "zip") (hm : X.mg "zip" = none) (ha : DA X G W [a, b] waa)
    (hs : starEach [a, b] X.env = (false, eval a X.env) :: starEach [b] X.env := by rfl) (hpl : (backTo pos (starEach [b] X.env)).any (·.1) = false := by rfl) :
    DI X G W true (.Tuple elts kk tpos) (.Call (.Name "zip" p) [a, b] [] pos) (wiZG waa) :=
  PI.imp (pi_zipG hg hm ha hs hpl) fun σ H R ⟨F, δ, P, PX, S, q, k, xk⟩ => by
    refine ⟨F, δ, _, PX, S, q, fun vs F1 H1 rs x1 q1 ⟨r1, r2, xs, ys, e, ed1, ed2, p1⟩ => ?_, xk⟩
    subst e
    cases q1 with
    | cons rr t =>
      cases t with
      | cons rr2 t =>
        cases t
        cases ed2' : r2 with
        | ol zs =>
          rw [ed2'] at ed2 rr2
          have z : zs = ys := Option.some.inj ed2
          subst z
          obtain ⟨p2, vs2, ev2, h02, h2, n2, nd2, l2⟩ := rr2
          by_cases hr : ∃ zs, r1 = .ol zs
          · obtain ⟨zs1, rfl⟩ := hr
            have z : zs1 = xs := Option.some.inj ed1
            subst z
            obtain ⟨p1', vs1, ev1, h01, h1, n1, nd1, l1⟩ := rr
            have x2 := x1.freeze h01 h1 n1 nd1
            by_cases hp : p2 = p1'
            · subst hp
              rw [h2] at h1
              cases h1
              refine ⟨.l p2, .l p2, vs2, vs2, by rw [ev1, ev2]; rfl, SqL.of h2, SqL.of h2, k _ (fun F H => Sub (upd F1 p2 (.lst vs2)) F ∧ Sub F H) _ H1 _ x2 ⟨Sub.refl, x2.le⟩ (walkZG (RepL.mono (upd_grow n1) l1) (RepL.mono (upd_grow n1) l2) (fun H' le => .inl (.inl (le _ _ upd_same))) (fun H' le => .inl (.inl (le _ _ upd_same)))) ?_ p1⟩
              exact fun F H F' H' ⟨s0, le⟩ s1 s2 => ⟨s0.trans s1, s2⟩
            · have n2' : upd F1 p1' (.lst vs1) p2 = none := by rw [upd_ne hp]; exact n2
              have x3 := x2.freeze h02 h2 n2' nd2
              refine ⟨.l p1', .l p2, vs1, vs2, by rw [ev1, ev2]; rfl, SqL.of h1, SqL.of h2, k _ (fun F H => Sub (upd (upd F1 p1' (.lst vs1)) p2 (.lst vs2)) F ∧ Sub F H) _ H1 _ x3 ⟨Sub.refl, x3.le⟩
                (walkZG (RepL.mono ((upd_grow n1).trans (upd_grow n2')) l1) (RepL.mono ((upd_grow n1).trans (upd_grow n2')) l2) (fun H' le => .inl (.inl (le _ _ (upd_grow n2' _ _ upd_same)))) (fun H' le => .inl (.inl (le _ _ upd_same)))) ?_ p1⟩
              exact fun F H F' H' ⟨s0, le⟩ s1 s2 => ⟨s0.trans s1, s2⟩
          · obtain ⟨F2, us, sq, x2, s2, ev, l, hq⟩ := rr.seqS x1 ed1
            have eF : F2 p2 = none ∨ F2 p2 ≠ none := Classical.em _
            rcases eF with n2' | n2'
            · have x3 := x2.freeze h02 h2 n2' nd2
              refine ⟨sq, .l p2, us, vs2, by rw [ev, ev2]; rfl, hq _ x2.le, SqL.of h2, k _ (fun F H => Sub (upd F2 p2 (.lst vs2)) F ∧ Sub F H) _ H1 _ x3 ⟨Sub.refl, x3.le⟩
                (walkZG (RepL.mono (upd_grow n2') l) (RepL.mono (s2.trans (upd_grow n2')) l2) (fun H' le => hq _ ((upd_grow n2').trans le)) (fun H' le => .inl (.inl (le _ _ upd_same)))) ?_ p1⟩
              exact fun F H F' H' ⟨s0, le⟩ s1 s2 => ⟨s0.trans s1, s2⟩
            · obtain ⟨u, eu⟩ := Option.ne_none_iff_exists'.mp n2'
              have eu' := x2.le _ _ eu
              rw [h2] at eu'
              cases eu'
              refine ⟨sq, .l p2, us, vs2, by rw [ev, ev2]; rfl, hq _ x2.le, SqL.of h2, k _ (fun F H => Sub F2 F ∧ Sub F H) _ H1 _ x2 ⟨Sub.refl, x2.le⟩
                (walkZG l (RepL.mono s2 l2) (fun H' le => hq _ le) (fun H' le => .inl (.inl (le _ _ eu)))) ?_ p1⟩
              exact fun F H F' H' ⟨s0, le⟩ s1 s2 => ⟨s0.trans s1, s2⟩
        | im d =>
          rw [ed2'] at ed2 rr2
          obtain ⟨F2, us, sq, x2, s2, ev, l, hq⟩ := rr.seqS x1 ed1
          have rr3 : RepR X.K G.w H F2 H1 _ (.im d) := RepD.mono s2 rr2
          obtain ⟨F3, us3, sq3, x3, s3, ev3, l3, hq3⟩ := rr3.seqS x2 ed2
          refine ⟨sq, sq3, us, us3, by rw [ev, ev3], hq _ (s3.trans x3.le), hq3 _ x3.le, k _ (fun F H => Sub F3 F ∧ Sub F H) F3 H1 _ x3 ⟨Sub.refl, x3.le⟩ (walkZG (RepL.mono s3 l) l3 (fun H' le => hq _ (s3.trans le)) hq3) ?_ p1⟩
          exact fun F H F' H' ⟨s0, le⟩ s1 s2 => ⟨s0.trans s1, s2⟩
        | _ => rw [ed2'] at ed2; cases ed2
end
end DW
namespace FW
open PySem PySem.Spec L2 DW
section
variable {X : Cx} {G : Gd} {W : WX} {st : Bool} {tg iter e a b c o elt kx vx : Expr} {es rest : List Expr} {fe fa fb fc fo fk fv : FE} {ft fu : FT} {faa : FA} {fi : FI} {fg : FG} {fgs : FGs} {pos p np p2 : Pos} {ts us : List Nat} {s : Stmt} {body : List Stmt}
def iEG (fa : FA) : FI := fun δ => (fa δ).bind fun rs => match rs with
  | [r] => (ofO (seqD r)).bind fun xs => .ok (enums xs)
  | _ => .no
theorem i_enumG {elts : List Expr} {kk : Nat} {tpos : Pos} (hg : Gl X "enumerate") (hm : X.mg "enumerate" = none) (ha : A_ X G W [e] faa) (hs : starEach [e] X.env = [(false, eval e X.env)] := by rfl) : I_ X G W true (.Tuple elts kk tpos) (.Call (.Name "enumerate" p) [e] [] pos) (iEG faa) :=
  DI.imp (di_enumG hg hm ha hs) fun δ P PX q => Tr.sat_of (Tr.sat_bind.mp q) fun rs qr => by
    split at qr
    · obtain ⟨xs, e1, p1⟩ := ofO_sat (Tr.sat_bind.mp qr)
      exact ⟨_, xs, rfl, e1, p1⟩
    · exact qr.elim
def iZG (fa : FA) : FI := fun δ => (fa δ).bind fun rs => match rs with
  | [r1, r2] => (ofO (seqD r1)).bind fun xs => (ofO (seqD r2)).bind fun ys => .ok (zips xs ys)
  | _ => .no
theorem i_zipG {elts : List Expr} {kk : Nat} {tpos : Pos} (hg : Gl X "zip") (hm : X.mg "zip" = none) (ha : A_ X G W [a, b] faa)
    (hs : starEach [a, b] X.env = (false, eval a X.env) :: starEach [b] X.env := by rfl) (hpl : (backTo pos (starEach [b] X.env)).any (·.1) = false := by rfl) : I_ X G W true (.Tuple elts kk tpos) (.Call (.Name "zip" p) [a, b] [] pos) (iZG faa) :=
  DI.imp (di_zipG hg hm ha hs hpl) fun δ P PX q => Tr.sat_of (Tr.sat_bind.mp q) fun rs qr => by
    split at qr
    · obtain ⟨xs, e1, p1⟩ := ofO_sat (Tr.sat_bind.mp qr)
      obtain ⟨ys, e2, p2⟩ := ofO_sat (Tr.sat_bind.mp p1)
      exact ⟨_, _, xs, ys, rfl, e1, e2, p2⟩
    · exact qr.elim
end
end FW
set_option Elab.async false
set_option linter.all false
set_option maxRecDepth 100000
set_option maxHeartbeats 4000000
/-! {k: v for .. in .. for .. in .. if ..} -/
namespace DW
open PySem PySem.Spec L2 PyProof.Rows
theorem compTurn2D_out (kx vx t0 i0 t1 i1 : Expr) (ifs0 ifs1 : List Expr) (scope : Scope) (pos : Pos) (it acc : Value) (env : Env) :
    compTurn (.DictComp kx vx [⟨t0, i0, ifs0, 0⟩, ⟨t1, i1, ifs1, 0⟩] scope pos) 0 it acc env = (do
      standAt i0.pos
      match ← pyNext it with
      | none => pure (.done .next)
      | some v =>
        letOwnedTupleGo t0 it v
        assign t0 env v
        let mut ok := true
        for c in ifs0 do
          if ok then ok ← isTrue c env (eval c env)
        if ok then
          let x ← eval i1 env
          standAt i1.pos
          let x ← foldedSetIterable i1 env x
          let _ ← runOwn (.compStart (.DictComp kx vx [⟨t0, i0, ifs0, 0⟩, ⟨t1, i1, ifs1, 0⟩] scope pos) 1 (← holding [x] (pyIter x)) acc env) env
        again (.compLoop (.DictComp kx vx [⟨t0, i0, ifs0, 0⟩, ⟨t1, i1, ifs1, 0⟩] scope pos) 0 it acc env)) := by rfl
theorem compTurn2D_in (kx vx t0 i0 t1 i1 : Expr) (ifs0 ifs1 : List Expr) (scope : Scope) (pos : Pos) (it : Value) (D : Addr) (env : Env) :
    compTurn (.DictComp kx vx [⟨t0, i0, ifs0, 0⟩, ⟨t1, i1, ifs1, 0⟩] scope pos) 1 it (.ref D) env = (do
      standAt i1.pos
      match ← pyNext it with
      | none => pure (.done .next)
      | some v =>
        letOwnedTupleGo t1 it v
        assign t1 env v
        let mut ok := true
        for c in ifs1 do
          if ok then ok ← isTrue c env (eval c env)
        if ok then
          (do
            let kv ← eval kx env
            let vv ← holding [kv] (eval vx env)
            standAt { kx.pos with endLine := vx.pos.endLine, endCol := vx.pos.endCol }
            holding [kv, vv] (dictSet D kv vv))
        again (.compLoop (.DictComp kx vx [⟨t0, i0, ifs0, 0⟩, ⟨t1, i1, ifs1, 0⟩] scope pos) 1 it (.ref D) env)) := by rfl
section
variable {prog : Program} {w : World} {A : Around} {R : Result → Shared → Prop} {s : Shared} {kx vx t0 i0 t1 i1 : Expr} {ifs0 ifs1 : List Expr} {scope : Scope} {pos : Pos} {it acc : Value} {env : Env} {D : Addr}
theorem compLoop2D_out (hs : ∀ x, foldedSetIterable i1 env x = pure x) (I : Nat → Shared → Prop)
    (turn : ∀ n s, I n s → wpAny (model prog w) A (pyNext it) (fun r s₁ => match r with
      | none => R (.ok .next) s₁
      | some v => wpAny (model prog w) A (letOwnedTupleGo t0 it v) (fun _ s₁' => wpAny (model prog w) A (assign t0 env v) (fun _ s₂ =>
          wpAny (model prog w) A (forIn ifs0 true fun c r => if r = true then do let ok ← isTrue c env (eval c env); pure (ForInStep.yield ok) else pure (ForInStep.yield r)) (fun ok s₃ =>
            if ok = true then wpAny (model prog w) A (eval i1 env) (fun x s₄ => wpAny (model prog w) A (pyIter x) (fun it1 s₅ =>
              codeAny (model prog w) A (.compStart (.DictComp kx vx [⟨t0, i0, ifs0, 0⟩, ⟨t1, i1, ifs1, 0⟩] scope pos) 1 it1 acc env) (fun r s' => match r with
                | .ok _ => ∃ m, m < n ∧ I m s'
                | .error _ => False) s₅) (notedBy (model prog w) A env fun e s' => R (.error e) s') s₄) (notedBy (model prog w) A env fun e s' => R (.error e) s') s₃
            else ∃ m, m < n ∧ I m s₃) (notedBy (model prog w) A env fun e s' => R (.error e) s') s₂) (notedBy (model prog w) A env fun e s' => R (.error e) s') s₁') (notedBy (model prog w) A env fun e s' => R (.error e) s') s₁) (notedBy (model prog w) A env fun e s' => R (.error e) s') s)
    (n : Nat) (h : I n s) :
    codeAny (model prog w) A (.compLoop (.DictComp kx vx [⟨t0, i0, ifs0, 0⟩, ⟨t1, i1, ifs1, 0⟩] scope pos) 0 it acc env) R s := by
  refine codeAny_loop rfl I (fun n s hI => ?_) n h
  show wpAny _ A ((compTurn (.DictComp kx vx [⟨t0, i0, ifs0, 0⟩, ⟨t1, i1, ifs1, 0⟩] scope pos) 0 it acc env).onRaise (fun x => do noteFrame x env; theTreesLotGoes x)) _ _ s
  refine wpAny_noted ?_
  rw [compTurn2D_out]
  refine wpAny_bind (wpAny_standAt (wpAny_bind (wpAny_mono (turn n s hI) (fun r s₁ h₁ => ?_) fun _ _ h' => h')))
  cases r with
  | none => exact wpAny_pure h₁
  | some v =>
    refine wpAny_bind (wpAny_mono h₁ (fun _ s₁' h₁' => ?_) fun _ _ h' => h')
    refine wpAny_bind (wpAny_mono h₁' (fun _ s₂ h₂ => wpAny_bind (wpAny_mono h₂ (fun ok s₃ h₃ => ?_) fun _ _ h' => h')) fun _ _ h' => h')
    cases ok with
    | false => exact wpAny_pure ⟨rfl, h₃⟩
    | true =>
      refine wpAny_bind (wpAny_mono h₃ (fun x s₄ h₄ => ?_) fun _ _ h' => h')
      refine wpAny_bind (wpAny_standAt (wpAny_bind (wpAny_of_eq (hs x) (wpAny_bind (wpAny_holding (wpAny_mono h₄ (fun it1 s₅ h₅ => ?_) fun _ _ h' => h'))))))
      refine wpAny_bind (wpAny_runOwn ?_)
      rw [Around.mark_none]
      refine codeAny_mono h₅ fun r s' hr => ?_
      cases r with
      | ok f =>
        first
          | exact wpAny_pure ⟨rfl, hr⟩
          | exact wpAny_bind (wpAny_pure (wpAny_pure ⟨rfl, hr⟩))
      | error e => exact hr.elim
theorem compLoop2D_in (I : Nat → Shared → Prop)
    (turn : ∀ n s, I n s → wpAny (model prog w) A (pyNext it) (fun r s₁ => match r with
      | none => R (.ok .next) s₁
      | some v => wpAny (model prog w) A (letOwnedTupleGo t1 it v) (fun _ s₁' => wpAny (model prog w) A (assign t1 env v) (fun _ s₂ =>
          wpAny (model prog w) A (forIn ifs1 true fun c r => if r = true then do let ok ← isTrue c env (eval c env); pure (ForInStep.yield ok) else pure (ForInStep.yield r)) (fun ok s₃ =>
            if ok = true then wpAny (model prog w) A (eval kx env) (fun kv s₄ => wpAny (model prog w) A (eval vx env) (fun vv s₅ =>
              wpAny (model prog w) A (dictSet D kv vv) (fun _ s₆ => ∃ m, m < n ∧ I m s₆) (notedBy (model prog w) A env fun e s' => R (.error e) s') s₅) (notedBy (model prog w) A env fun e s' => R (.error e) s') s₄) (notedBy (model prog w) A env fun e s' => R (.error e) s') s₃
            else ∃ m, m < n ∧ I m s₃) (notedBy (model prog w) A env fun e s' => R (.error e) s') s₂) (notedBy (model prog w) A env fun e s' => R (.error e) s') s₁') (notedBy (model prog w) A env fun e s' => R (.error e) s') s₁) (notedBy (model prog w) A env fun e s' => R (.error e) s') s)
    (n : Nat) (h : I n s) :
    codeAny (model prog w) A (.compLoop (.DictComp kx vx [⟨t0, i0, ifs0, 0⟩, ⟨t1, i1, ifs1, 0⟩] scope pos) 1 it (.ref D) env) R s := by
  refine codeAny_loop rfl I (fun n s hI => ?_) n h
  show wpAny _ A ((compTurn (.DictComp kx vx [⟨t0, i0, ifs0, 0⟩, ⟨t1, i1, ifs1, 0⟩] scope pos) 1 it (.ref D) env).onRaise (fun x => do noteFrame x env; theTreesLotGoes x)) _ _ s
  refine wpAny_noted ?_
  rw [compTurn2D_in]
  refine wpAny_bind (wpAny_standAt (wpAny_bind (wpAny_mono (turn n s hI) (fun r s₁ h₁ => ?_) fun _ _ h' => h')))
  cases r with
  | none => exact wpAny_pure h₁
  | some v =>
    refine wpAny_bind (wpAny_mono h₁ (fun _ s₁' h₁' => ?_) fun _ _ h' => h')
    refine wpAny_bind (wpAny_mono h₁' (fun _ s₂ h₂ => wpAny_bind (wpAny_mono h₂ (fun ok s₃ h₃ => ?_) fun _ _ h' => h')) fun _ _ h' => h')
    cases ok with
    | false => exact wpAny_pure ⟨rfl, h₃⟩
    | true =>
      exact wpAny_bind (wpAny_bind (wpAny_mono h₃ (fun kv s₄ h₄ => wpAny_bind (wpAny_holding (wpAny_mono h₄ (fun vv s₅ h₅ => wpAny_bind (wpAny_standAt (wpAny_holding (wpAny_mono h₅ (fun _ s₆ h₆ => wpAny_pure ⟨rfl, h₆⟩) fun _ _ h' => h')))) fun _ _ h' => h'))) fun _ _ h' => h'))
theorem compStart1D_ok (h0 : codeAny (model prog w) A (.compLoop (.DictComp kx vx [⟨t0, i0, ifs0, 0⟩, ⟨t1, i1, ifs1, 0⟩] scope pos) 1 it acc env) R s)
    (h : wpAny (model prog w) A (pyIter it) (fun it' s' => codeAny (model prog w) A (.compLoop (.DictComp kx vx [⟨t0, i0, ifs0, 0⟩, ⟨t1, i1, ifs1, 0⟩] scope pos) 1 it' acc env) R s')
      (notedBy (model prog w) A env fun x s' => R (.error x) s') s) :
    codeAny (model prog w) A (.compStart (.DictComp kx vx [⟨t0, i0, ifs0, 0⟩, ⟨t1, i1, ifs1, 0⟩] scope pos) 1 it acc env) R s := by
  refine codeAny_of_tree ?_
  show wpAny _ _ ((compStart (.DictComp kx vx [⟨t0, i0, ifs0, 0⟩, ⟨t1, i1, ifs1, 0⟩] scope pos) 1 it acc env).onRaise (fun x => do noteFrame x env; standAt theWindowsPlace)) _ _ s
  refine wpAny_notedAt ?_
  unfold compStart
  show wpAny _ _ (ask >>= _) _ _ s
  refine wpAny_bind (wpAny_askSetting (wpAny_ite ?_))
  split
  · first
      | exact wpAny_bind (wpAny_pure (wpAny_pure (And.intro rfl h0)))
      | exact wpAny_pure (And.intro rfl h0)
  · first
      | exact wpAny_bind (wpAny_rule (wpAny_bind (wpAny_standAt (wpAny_bind (wpAny_mono h (fun it' s' h' => wpAny_pure (And.intro rfl h')) fun _ _ x => x)))))
      | (refine wpAny_bind (wpAny_rule ?_); show wpAny _ _ (standAt i1.pos >>= _) _ _ s; exact wpAny_bind (wpAny_standAt (wpAny_bind (wpAny_mono h (fun it' s' h' => wpAny_pure (And.intro rfl h')) fun _ _ x => x))))
end
section
variable {X : Cx}
def tDG2 (o0 : HO) (wi : TI) (g : TG) (wi1 : TI) (g1 : TG) (tt1 : TT) (tk tv : TE) (vs vs1 : List Nat) : TE := fun σ H Q => wi σ H fun J H1 => ∀ D, H1 D = none → ∃ U : Nat → Nat → Hp → Prop, (∃ m, U 0 m (upd H1 D o0)) ∧ ∀ i m H, U i m H →
  (J.stop i H ∧ Q (.ref D) H) ∨ (J.go i H ∧ ∃ Nx : Hp → Prop, (∀ H', Nx H' → ∃ m', m' < m ∧ U (i + 1) m' H') ∧ ∀ x H', J.yld i H x H' → g x (wipe σ vs) H' fun σ2 H2 => wipe σ2 vs = wipe σ vs ∧
    wi1 σ2 H2 fun J1 H4 => ∃ U1 : Nat → Nat → Hp → Prop, (∃ m, U1 0 m H4) ∧ ∀ j k H, U1 j k H →
      (J1.stop j H ∧ Nx H) ∨ (J1.go j H ∧ ∃ Nx1 : Hp → Prop, (∀ H', Nx1 H' → ∃ k', k' < k ∧ U1 (j + 1) k' H') ∧ ∀ x H', J1.yld j H x H' → g1 x (wipe σ2 vs1) H' fun σ3 H5 => wipe σ3 vs1 = wipe σ2 vs1 ∧ tt1 σ3 H5 fun b H6 =>
        if b = true then tk σ3 H6 fun y H7 => tv σ3 H7 fun z H8 => ∃ H9, DPut H8 D y z H9 ∧ Nx1 H9 else Nx1 H6))
theorem dg2_core {o0 : HO} {pins : List (Addr × Obj)} {s : Shared} {σ : L2.St} {H : Hp} {Q : VK} {kx vx tg iter tg1 iter1 : Expr} {ifs1 : List Expr} {scope : Scope} {own : List (Str × Nat)} {vs1 : List Nat} {p1 p2 : Pos} {wi wi1 : TI} {g g1 : TG} {tt1 : TT} {tk tv : TE} {use : Option (Value → Sem Unit)} {Qf : Value → Shared → Prop}
    (he0 : Emp o0) (hu : X.A.units + 1 < cLine) (hc : X.calm = true) (hN : X.N.Nodup) (I : Inv X pins σ H s) (hi : PI X tg iter wi) (ok : BlkOk X.N X.env.scope scope own) (hv : ∀ i ∈ vs1, i ∈ own.map (·.2))
    (hg : ∀ (s : Shared) (H : Hp) (C : Addr) (cl : List (Str × Addr)) (fp : List Addr), PG (X.blk s H scope (compEnvC scope cl C X.env) fp) tg g)
    (hi1 : ∀ (s : Shared) (H : Hp) (C : Addr) (cl : List (Str × Addr)) (fp : List Addr), PI (X.blk s H scope (compEnvC scope cl C X.env) fp) tg1 iter1 wi1)
    (hg1 : ∀ (s : Shared) (H : Hp) (C : Addr) (cl : List (Str × Addr)) (fp : List Addr), PG (X.blk s H scope (compEnvC scope cl C X.env) fp) tg1 g1)
    (ht1 : ∀ (s : Shared) (H : Hp) (C : Addr) (cl : List (Str × Addr)) (fp : List Addr), PTs (X.blk s H scope (compEnvC scope cl C X.env) fp) ifs1 tt1)
    (hk : ∀ (s : Shared) (H : Hp) (C : Addr) (cl : List (Str × Addr)) (fp : List Addr), PE (X.blk s H scope (compEnvC scope cl C X.env) fp) kx tk) (hvx : ∀ (s : Shared) (H : Hp) (C : Addr) (cl : List (Str × Addr)) (fp : List Addr), PE (X.blk s H scope (compEnvC scope cl C X.env) fp) vx tv)
    (hs : ∀ x, foldedSetIterable iter X.env x = pure x) (hs1 : ∀ env x, foldedSetIterable iter1 env x = pure x)
    (h : tDG2 o0 wi g wi1 g1 tt1 tk tv (own.map (·.2)) vs1 σ H Q)
    (fin0 : ∀ D C t m H', Inv X pins σ H' t → Q (.ref D) H' → t.heap.Ns C m → FpOk X pins H' C → compPost (model X.prog X.w) X.A X.xe use Qf (.ref D) C (.ok .next) t) :
    wpAny (model X.prog X.w) X.A (comprehension (.DictComp kx vx [⟨tg, iter, [], 0⟩, ⟨tg1, iter1, ifs1, 0⟩] scope p1) scope X.env p2 newDict false (eval iter X.env) use) Qf X.xe s := by
  have caught : ∀ y ∈ scope.names, y.2 = .free → ∃ c, X.env.cells.lookup y.1 = some c := fun y hy e => (ok.free y hy e).elim (fun k => I.ok.has _ (.inl k)) fun k => I.ok.has _ (.inr k)
  refine wpAny_comprehension_free (use := use) rfl hs (closure_ok caught) ok.kind (fun y hy e => by rw [ok.uniq y hy, e]) (thn (hi.run pins s σ H _ I h) fun xv t1 hx => thn hx fun itv t2 z => ?_)
  obtain ⟨it, fp, tn, J, H2, e, I2, T, at0, f2, q⟩ := z
  subst e
  refine wpAny_newObj_type (newEnv_comp ?_)
  generalize eD : t2.heap.objs.size = D
  have gone : H2 D = none := I2.hok.fresh (Nat.le_of_eq eD)
  obtain ⟨U, ⟨m0, u0⟩, turn⟩ := q D gone
  generalize e3 : ({ t2 with heap := t2.heap.push { cls := .type "dict", data := .dict #[] } } : Shared) = t3
  have I3 : Inv X pins σ (upd H2 D o0) t3 := by
    subst e3; subst eD
    exact I2.laid (t' := t2.toks) (fun b o e => Heap.get?_push_of_some _ e) (Nat.le_refl _) (he0.ok t2.heap I2.big)
  have k3 : t3.heap = t2.heap.push { cls := .type "dict", data := .dict #[] } := by subst e3; rfl
  have below : ∀ b ∈ fp, b < t2.heap.objs.size := fun b hb => let ⟨o, e, _⟩ := T.obj _ _ at0 b hb; Heap.lt_size e
  have f3 : ∀ b ∈ fp, FpOk X pins (upd H2 D o0) b ∧ b < t3.heap.objs.size := fun b hb => by
    have lt := below b hb
    have ne : b ≠ D := by rw [← eD]; exact Nat.ne_of_lt lt
    exact ⟨⟨by rw [upd_ne ne]; exact (f2 b hb).1, (f2 b hb).2⟩, by rw [k3, Heap.size_push]; exact Nat.lt_succ_of_lt lt⟩
  have at3 : tn 0 t3.heap := T.keep _ _ _ at0 fun b _ o e => by rw [k3]; exact Heap.get?_push_of_some _ e
  have I4 := block_start I3 ok hN f3
  generalize ecl : cellsFrom (t3.heap.objs.size + 1) scope.names (cloFrom X.env.cells scope.names []) = cl at I4
  have pg := hg t3 (upd H2 D o0) t3.heap.objs.size cl fp
  have pi1 := hi1 t3 (upd H2 D o0) t3.heap.objs.size cl fp
  have pg1 := hg1 t3 (upd H2 D o0) t3.heap.objs.size cl fp
  have pt1 := ht1 t3 (upd H2 D o0) t3.heap.objs.size cl fp
  have pk := hk t3 (upd H2 D o0) t3.heap.objs.size cl fp
  have pe := hvx t3 (upd H2 D o0) t3.heap.objs.size cl fp
  subst ecl
  show codeAny _ _ (.compStart (.DictComp kx vx [⟨tg, iter, [], 0⟩, ⟨tg1, iter1, ifs1, 0⟩] scope p1) 0 (.ref it) (.ref D) (compEnvC scope (cellsFrom (t3.heap.objs.size + 1) scope.names (cloFrom X.env.cells scope.names [])) t3.heap.objs.size X.env)) (compPost (model X.prog X.w) X.A X.xe use Qf (.ref D) t3.heap.objs.size) { t3 with heap := pushCells (t3.heap.push { cls := .type "dict", data := .dict #[] }) scope.names }
  have nofp : ∀ b ∈ fp, (upd H2 D o0) b = none := fun b hb => (f3 b hb).1.1
  generalize ee : compEnvC scope (cellsFrom (t3.heap.objs.size + 1) scope.names (cloFrom X.env.cells scope.names [])) t3.heap.objs.size X.env = ce at I4 pg pi1 pg1 pt1 pk pe ⊢
  have eL : ce.locals = t3.heap.objs.size := by subst ee; rfl
  generalize eH : upd H2 D o0 = H3 at I3 I4 pg pi1 pg1 pt1 pk pe u0 nofp f3
  generalize e4 : ({ t3 with heap := pushCells (t3.heap.push { cls := .type "dict", data := .dict #[] }) scope.names } : Shared) = t4 at I4 ⊢
  have at4 : tn 0 t4.heap := T.keep _ _ _ at3 fun b _ o e => by subst e4; exact pushCells_keeps _ _ _ _ (Heap.get?_push_of_some _ e)
  have still : ∀ {τ : L2.St} {H' : Hp} {t : Shared}, Inv (X.blk t3 H3 scope ce fp) [] τ H' t → (∀ b ∈ fp, H' b = none) → ∀ b ∈ fp, FpOk (X.blk t3 H3 scope ce fp) [] H' b := fun {τ H' t} J' n b hb => ⟨n b hb, (J'.ok.exf b hb).1, J'.ok.exfs b hb, .inl hb, fun x c e => (J'.ok.exf b hb).2 x c e, fun p hp => by cases hp⟩
  have loop : codeAny (model X.prog X.w) X.A (.compLoop (.DictComp kx vx [⟨tg, iter, [], 0⟩, ⟨tg1, iter1, ifs1, 0⟩] scope p1) 0 (.ref it) (.ref D) ce) (compPost (model X.prog X.w) X.A X.xe use Qf (.ref D) t3.heap.objs.size) t4 := by
    refine compLoop2D_out (hs1 ce) (fun n t => ∃ i H', Inv (X.blk t3 H3 scope ce fp) [] (wipe σ (own.map (·.2))) H' t ∧ tn i t.heap ∧ (∀ b ∈ fp, H' b = none) ∧ U i n H') ?_ m0 ⟨0, H3, I4, at4, nofp, u0⟩
    rintro n t5 ⟨i, H5, I5, at5, n5, u5⟩
    rcases turn i n H5 u5 with ⟨stop, qq⟩ | ⟨go, Nx, more, step⟩
    · refine thnF (T.done (X.blk t3 H3 scope ce fp) rfl rfl rfl hc i [] t5 _ H5 (fun _ _ => False) I5 (still I5 n5) at5 stop) fun r t6 ⟨hr, I6⟩ => ?_
      subst hr
      have I7 : Inv X pins σ H5 t6 := I3.call' (ch := fp) I6.os I6.base I6.hok I6.bare fun b hb => let ⟨_, c1, c2, c3, c4, c5⟩ := (f3 b hb).1; ⟨c3, c1, c4, c5⟩
      have nC : H5 t3.heap.objs.size = none := by rw [← eL]; exact I6.free
      obtain ⟨m, hn, _⟩ := I6.loc
      have hn2 : t6.heap.Ns t3.heap.objs.size m := by rw [← eL]; exact hn
      exact fin0 D t3.heap.objs.size t6 m H5 I7 qq hn2 (I3.fpOk (Nat.le_refl _) nC)
    · refine thnF (T.item (X.blk t3 H3 scope ce fp) rfl rfl rfl hc i [] t5 _ H5 (fun _ _ => False) I5 (still I5 n5) at5 go) fun r t6 ⟨u, hr, h6⟩ => ?_
      subst hr
      refine thnF h6 fun _ s7 ⟨x, H7, I7, r7, y7, st7, n7⟩ => ?_
      have I7' := I7.pinned (still I7 n7) (T.obj _ _ st7)
      refine thnF (pg.run _ s7 _ H7 x u _ I7' r7 (step x H7 y7)) fun _ s8 ⟨σ8, H8, I8, hw8, q8⟩ => ?_
      refine thnF ((pts_nil (X := X.blk t3 H3 scope ce fp)).run _ s8 σ8 H8 (fun b H' => b = true ∧ H' = H8) I8 (And.intro rfl rfl)) fun b s9 ⟨H9, I9, eb, eH9⟩ => ?_
      subst eb eH9
      -- the turn's end
      have fin : ∀ {σ9 : L2.St} {s' : Shared} {H' : Hp}, Inv (X.blk t3 H3 scope ce fp) ([] ++ pinsAt fp s7.heap) σ9 H' s' → (wipe σ (own.map (·.2))).length = σ9.length → (∀ (j : Nat) v, (wipe σ (own.map (·.2)))[j]? = some (some v) → σ9[j]? = some (some v)) → Nx H' →
          ∃ m, m < n ∧ ∃ i H', Inv (X.blk t3 H3 scope ce fp) [] (wipe σ (own.map (·.2))) H' s' ∧ tn i s'.heap ∧ (∀ b ∈ fp, H' b = none) ∧ U i m H' := fun {σ9 s' H'} I' hl hk nx => by
        obtain ⟨m', hm, w'⟩ := more H' nx
        have pin' : ∀ b ∈ fp, ∀ o, s7.heap.get? b = some o → s'.heap.get? b = some o ∧ H' b = none := fun b hb o e =>
          let z := I'.pin (b, o) (List.mem_append_right _ (List.mem_append_right _ (mem_pinsAt hb e)))
          ⟨z.1, z.2.1⟩
        refine ⟨m', hm, i + 1, H', (I'.unpinned (pins := [])).weak hl hk, T.keep _ _ _ st7 fun b hb o e => (pin' b hb o e).1, fun b hb => ?_, w'⟩
        obtain ⟨o, e, _⟩ := T.obj _ _ st7 b hb
        exact (pin' b hb o e).2
      have hl8 : (wipe σ (own.map (·.2))).length = σ8.length := by rw [← hw8, wipe_length]
      have hk9 : ∀ (j : Nat) v, (wipe σ (own.map (·.2)))[j]? = some (some v) → (wipe σ8 vs1)[j]? = some (some v) := fun j v e => by
        rw [← hw8] at e
        obtain ⟨e1, e2⟩ := wipe_some e
        rw [wipe_out fun z => e2 (hv j z)]
        exact e1
      rw [if_pos rfl]
      refine thnF (pi1.run _ s9 σ8 H9 _ I9 q8) fun xv s10 hx => thnF hx fun itv s11 h11 => ?_
      obtain ⟨it1, fp1, tn1, J1, H11, e1, I11, T1, st11, f11, W1, ⟨m1, w1⟩, turn1⟩ := h11
      subst e1
      have stat1 : ∀ {H' : Hp}, (∀ b ∈ fp1, H' b = none) → ∀ b ∈ fp1, FpOk (X.blk t3 H3 scope ce fp) ([] ++ pinsAt fp s7.heap) H' b := fun hn b hb => ⟨hn b hb, (f11 b hb).2⟩
      have loop1 : codeAny (model X.prog X.w) X.A (.compLoop (.DictComp kx vx [⟨tg, iter, [], 0⟩, ⟨tg1, iter1, ifs1, 0⟩] scope p1) 1 (.ref it1) (.ref D) ce)
          (fun r s' => match r with
            | .ok _ => ∃ m, m < n ∧ ∃ i H', Inv (X.blk t3 H3 scope ce fp) [] (wipe σ (own.map (·.2))) H' s' ∧ tn i s'.heap ∧ (∀ b ∈ fp, H' b = none) ∧ U i m H'
            | .error _ => False) s11 := by
        refine compLoop2D_in (fun k s' => ∃ j H', Inv (X.blk t3 H3 scope ce fp) ([] ++ pinsAt fp s7.heap) (wipe σ8 vs1) H' s' ∧ tn1 j s'.heap ∧ (∀ b ∈ fp1, H' b = none) ∧ W1 j k H') ?_ m1 ⟨0, H11, I11.weak (wipe_length _ _) (fun j v e => (wipe_some e).1), st11, fun b hb => (f11 b hb).1, w1⟩
        rintro k s12 ⟨j, H12, I12, st12, n12, w12⟩
        rcases turn1 j k H12 w12 with ⟨stop1, nx1⟩ | ⟨go1, Nx1, hNx1, step1⟩
        · refine thnF (T1.done (X.blk t3 H3 scope ce fp) rfl rfl rfl hc j _ s12 (wipe σ8 vs1) H12 (fun _ _ => False) I12 (stat1 n12) st12 stop1) fun r s13 ⟨hr, I13⟩ => ?_
          subst hr
          exact fin I13 (hl8.trans (wipe_length σ8 vs1).symm) hk9 nx1
        · refine thnF (T1.item (X.blk t3 H3 scope ce fp) rfl rfl rfl hc j _ s12 (wipe σ8 vs1) H12 (fun _ _ => False) I12 (stat1 n12) st12 go1) fun r s13 ⟨u1, hr, h13⟩ => ?_
          subst hr
          refine thnF h13 fun _ s14 ⟨x1, H14, I14, r14, y14, st14, n14⟩ => ?_
          have I14' := I14.pinned (stat1 n14) (T1.obj _ _ st14)
          refine thnF (pg1.run _ s14 (wipe σ8 vs1) H14 x1 u1 _ I14' r14 (step1 x1 H14 y14)) fun _ s15 ⟨σ15, H15, I15, hw15, q15⟩ => ?_
          refine thnF (pt1.run _ s15 σ15 H15 _ I15 q15) fun b1 s16 ⟨H16, I16, q16⟩ => ?_
          have fin1 : ∀ {s' : Shared} {H' : Hp}, Inv (X.blk t3 H3 scope ce fp) (([] ++ pinsAt fp s7.heap) ++ pinsAt fp1 s14.heap) σ15 H' s' → Nx1 H' → ∃ m, m < k ∧ ∃ j H', Inv (X.blk t3 H3 scope ce fp) ([] ++ pinsAt fp s7.heap) (wipe σ8 vs1) H' s' ∧ tn1 j s'.heap ∧ (∀ b ∈ fp1, H' b = none) ∧ W1 j m H' := fun {s' H'} I' nx => by
            obtain ⟨m', hm, w'⟩ := hNx1 H' nx
            have pin' : ∀ b ∈ fp1, ∀ o, s14.heap.get? b = some o → s'.heap.get? b = some o ∧ H' b = none := fun b hb o e =>
              let z := I'.pin (b, o) (List.mem_append_right _ (List.mem_append_right _ (mem_pinsAt hb e)))
              ⟨z.1, z.2.1⟩
            refine ⟨m', hm, j + 1, H', I'.unpinned.weak (by rw [← hw15, wipe_length]) (fun j v e => by rw [← hw15] at e; exact (wipe_some e).1), T1.keep _ _ _ st14 fun b hb o e => (pin' b hb o e).1, fun b hb => ?_, w'⟩
            obtain ⟨o, e, _⟩ := T1.obj _ _ st14 b hb
            exact (pin' b hb o e).2
          cases b1 with
          | false =>
            simp only [Bool.false_eq_true, if_false] at q16 ⊢
            exact fin1 I16 q16
          | true =>
            simp only [if_true] at q16 ⊢
            exact thnF (pk.run _ s16 σ15 H16 _ I16 q16) fun z ta ⟨yk, Ha, Ia, ra, qa⟩ => thnF (pe.run _ ta σ15 Ha _ Ia qa) fun z2 tb ⟨yv, Hb, Ib, rb, H6, put, nx⟩ => dset (X := X.blk t3 H3 scope ce fp) hu Ib put ra rb fun tc Ic => fin1 Ic nx
      exact compStart1D_ok loop1 (T1.self X.A 0 _ _ _ st11 loop1)
  exact codeAny_compStart_dict loop (T.self X.A 0 _ _ _ at4 loop)
theorem pe_dG2 {o0 : HO} {kx vx tg iter tg1 iter1 : Expr} {ifs1 : List Expr} {scope : Scope} {own : List (Str × Nat)} {vs1 : List Nat} {pos : Pos} {wi wi1 : TI} {g g1 : TG} {tt1 : TT} {tk tv : TE} (he0 : Emp o0) (hu : X.A.units + 1 < cLine) (hc : X.calm = true) (hN : X.N.Nodup) (hi : PI X tg iter wi) (ok : BlkOk X.N X.env.scope scope own) (hv : ∀ i ∈ vs1, i ∈ own.map (·.2))
    (hg : ∀ (s : Shared) (H : Hp) (C : Addr) (cl : List (Str × Addr)) (fp : List Addr), PG (X.blk s H scope (compEnvC scope cl C X.env) fp) tg g)
    (hi1 : ∀ (s : Shared) (H : Hp) (C : Addr) (cl : List (Str × Addr)) (fp : List Addr), PI (X.blk s H scope (compEnvC scope cl C X.env) fp) tg1 iter1 wi1)
    (hg1 : ∀ (s : Shared) (H : Hp) (C : Addr) (cl : List (Str × Addr)) (fp : List Addr), PG (X.blk s H scope (compEnvC scope cl C X.env) fp) tg1 g1)
    (ht1 : ∀ (s : Shared) (H : Hp) (C : Addr) (cl : List (Str × Addr)) (fp : List Addr), PTs (X.blk s H scope (compEnvC scope cl C X.env) fp) ifs1 tt1)
    (hk : ∀ (s : Shared) (H : Hp) (C : Addr) (cl : List (Str × Addr)) (fp : List Addr), PE (X.blk s H scope (compEnvC scope cl C X.env) fp) kx tk) (hvx : ∀ (s : Shared) (H : Hp) (C : Addr) (cl : List (Str × Addr)) (fp : List Addr), PE (X.blk s H scope (compEnvC scope cl C X.env) fp) vx tv)
    (hs : ∀ x, foldedSetIterable iter X.env x = pure x := by intro _; rfl) (hs1 : ∀ env x, foldedSetIterable iter1 env x = pure x := by intro _ _; rfl) :
    PE X (.DictComp kx vx [⟨tg, iter, [], 0⟩, ⟨tg1, iter1, ifs1, 0⟩] scope pos) (tDG2 o0 wi g wi1 g1 tt1 tk tv (own.map (·.2)) vs1) := ⟨fun pins s σ H Q I h => by
  rw [arm_eval_DictComp]
  exact dg2_core he0 hu hc hN I hi ok hv hg hi1 hg1 ht1 hk hvx hs hs1 h fun D C t m H' J' q hn f => ⟨m, hn, fun h'' sb => let ⟨f0, f1, f2, f3, f4, f5⟩ := f; ⟨.ref D, H', J'.turned (t' := t.toks) (fun b o hb e => (sb.2 b hb).trans e) f0 f1 f3 f4 f5, rfl, q⟩⟩⟩
end
end DW
set_option Elab.async false
set_option linter.all false
set_option maxRecDepth 100000
set_option maxHeartbeats 4000000
namespace FW
open PySem PySem.Spec L2 DW
section
variable {K : PySem.W.Frag} {w : Option Dw} {G : Gd} {F F1 F2 H H1 H2 : Hp} {σ σ2 : L2.St} {δ δ2 : DEnv}
variable {X : Cx} {W : WX} {st : Bool} {tg iter tg1 iter1 e a b c elt kx vx : Expr} {es rest : List Expr} {fe fa fb fc fo fk fv : FE} {ft fu : FT} {faa : FA} {fi fi1 : FI} {fg fg1 : FG} {fgs : FGs} {pos p np p2 : Pos} {ts us : List Nat} {s : Stmt} {body : List Stmt}
/-! ### {k: v for .. in .. for .. in .. if ..} -/
def dc2F (g1 : FG) (i2 : FI) (g2 : FG) (t : FT) (fk fv : FE) (vs2 : List Nat) (δ0 : DEnv) : List D → SV → Tr SV
  | [], s => .ok s
  | d :: ds, s => (calm (g1 d δ0)).bind fun δ1 => (calm (i2 δ1)).bind fun items => (dcF g2 t fk fv (wipeD δ1 vs2) items s).bind fun s' => dc2F g1 i2 g2 t fk fv vs2 δ0 ds s'
def fDc2 (s0 : SV) (i1 : FI) (g1 : FG) (i2 : FI) (g2 : FG) (t : FT) (fk fv : FE) (vs vs2 : List Nat) : FE := fun δ => (i1 δ).bind fun items => (dc2F g1 i2 g2 t fk fv vs2 (wipeD δ vs) items s0).bind fun s => .ok s.rO
theorem dc2_of {o0 : HO} {s0 : SV} {ts1 ts2 vs vs2 : List Nat} {tt : TT} {tk tv : TE} (em : Em o0 s0) (h1 : ∀ t ∈ ts1, t ∈ vs) (h2 : ∀ t ∈ ts2, t ∈ vs2) (ht : ∀ σ H Q, dTT K G wTrue (wT K ft) σ H Q → tt σ H Q) (hk : ∀ σ H Q, dT K G wTrue (wE K fk) σ H Q → tk σ H Q) (hv : ∀ σ H Q, dT K G wTrue (wE K fv) σ H Q → tv σ H Q)
    {σ : L2.St} {H : Hp} {Q : VK} (h : dT K G W (wE K (fDc2 s0 fi fg fi1 fg1 ft fk fv vs vs2)) σ H Q) : tDG2 o0 (dTI K G W st (wI K fi)) (dGTo K G ts1 (wG fg)) (dTI K G wTrue true (wI K fi1)) (dGT K G ts2 (wG fg1)) tt tk tv vs vs2 σ H Q := by
  obtain ⟨F, δ, P, PX, S, q, k, xk⟩ := h
  refine ⟨F, δ, _, PX, S, Tr.sat_bind.mp q, fun J C F1 H1 items x1 c1 dw stc p1 => fun D hD => ?_, xk⟩
  obtain ⟨x1', n1, nd⟩ := new_dict (u := o0) x1.stay hD
  have d0 : DictAt K F1 o0 s0 := by
    rcases em with ⟨rfl, rfl⟩ | ⟨rfl, rfl⟩
    · exact ⟨[], rfl, .nil⟩
    · exact ⟨[], rfl, .nil⟩
  refine ⟨fun i m H => m = items.length - i ∧ i ≤ items.length ∧ ∃ F u sv, Ext G.w F1 H1 F H ∧ H D = some u ∧ F D = none ∧ DictAt K F u sv ∧ (dc2F fg fi1 fg1 ft fk fv vs2 (wipeD δ vs) (items.drop i) sv).sat (fun s => P s.rO) (fun _ => True),
    ⟨_, rfl, Nat.zero_le _, F1, o0, s0, x1', upd_same, n1, d0, Tr.sat_mono (Tr.sat_bind.mp p1) (fun _ h => h) fun _ _ => trivial⟩, ?_⟩
  rintro i m H ⟨rfl, hi, F, u, sv, x2, hDl, hDf, da, go⟩
  obtain ⟨w1, w2, w3⟩ := dw F H (stc.ext c1 x2) x2.stay
  by_cases hlt : i < items.length
  · refine .inr ⟨w1 i hlt, fun H' => i + 1 ≤ items.length ∧ ∃ F u sv, Ext G.w F1 H1 F H' ∧ H' D = some u ∧ F D = none ∧ DictAt K F u sv ∧ (dc2F fg fi1 fg1 ft fk fv vs2 (wipeD δ vs) (items.drop (i + 1)) sv).sat (fun s => P s.rO) (fun _ => True),
      fun H' n => ⟨items.length - (i + 1), by omega, rfl, n⟩, fun x H' y => ?_⟩
    have hd : items[i]? = some items[i] := List.getElem?_eq_getElem hlt
    have hdrop : items.drop i = items[i] :: items.drop (i + 1) := List.drop_eq_getElem_cons hlt
    rw [hdrop] at go
    obtain ⟨F', x3, rd⟩ := w3 i x H' _ hd y
    have S0 := (S.to x1).wipe vs
    have S' : RepS K G F' H' (L2.wipe σ vs) (wipeD δ vs) := (S.to (x1.trans (x2.trans x3))).wipe vs
    refine ⟨F', wipeD δ vs, _, _, S', rd, calm_sat (Tr.sat_bind.mp go), fun σ2 δ2 o2 S2 own2 p2 => ⟨wipe_only o2 h1, ?_⟩⟩
    obtain ⟨hD', hDf'⟩ := x3.keepN hDl hDf nd da.nt
    refine ⟨F', δ2, _, fun _ => False, S2, calm_sat (Tr.sat_bind.mp p2), fun J1 C1 F2 H2 items1 y1 cc1 dw1 stc1 q1 => ?_, xok_true⟩
    have hD2 := y1.keepN hD' hDf' nd da.nt
    refine ⟨fun j k H => k = items1.length - j ∧ j ≤ items1.length ∧ ∃ F u sv, Ext G.w F1 H1 F H ∧ Sub F2 F ∧ H D = some u ∧ F D = none ∧ DictAt K F u sv ∧
      dcGo (wG fg1) (wT K ft) (wE K fk) (wE K fv) (fun sv' => (dc2F fg fi1 fg1 ft fk fv vs2 (wipeD δ vs) (items.drop (i + 1)) sv').sat (fun s => P s.rO) (fun _ => True)) (wipeD δ2 vs2) (items1.drop j) sv,
      ⟨_, rfl, Nat.zero_le _, F2, u, sv, (x2.trans x3).trans y1, Sub.refl, hD2.1, hD2.2, da.mono (x3.trans y1).fs, dcF_ok _ _ (Tr.sat_mono (Tr.sat_bind.mp q1) (fun _ h => Tr.sat_mono h (fun _ h => h) fun _ _ => trivial) fun _ _ => trivial : (dcF fg1 ft fk fv (wipeD δ2 vs2) items1 sv).sat _ (fun _ => True))⟩, ?_⟩
    rintro j n H3 ⟨rfl, hj, F3, u3, sv3, z3, s3, hD3, hDf3, da3, go3⟩
    have cc3 : C1 F3 H3 := by
      unfold StC at stc1
      rw [if_pos rfl] at stc1
      exact stc1 F2 H2 F3 H3 cc1 s3 z3.le
    obtain ⟨v1, v2, v3⟩ := dw1 F3 H3 cc3 z3.stay
    by_cases hlt1 : j < items1.length
    · refine .inr ⟨v1 j hlt1, fun H' => j + 1 ≤ items1.length ∧ ∃ F u sv, Ext G.w F1 H1 F H' ∧ Sub F2 F ∧ H' D = some u ∧ F D = none ∧ DictAt K F u sv ∧
        dcGo (wG fg1) (wT K ft) (wE K fk) (wE K fv) (fun sv' => (dc2F fg fi1 fg1 ft fk fv vs2 (wipeD δ vs) (items.drop (i + 1)) sv').sat (fun s => P s.rO) (fun _ => True)) (wipeD δ2 vs2) (items1.drop (j + 1)) sv,
        fun H' n => ⟨items1.length - (j + 1), by omega, rfl, n⟩, fun x4 H4 y4 => ?_⟩
      have hd1 : items1[j]? = some items1[j] := List.getElem?_eq_getElem hlt1
      have hdrop1 : items1.drop j = items1[j] :: items1.drop (j + 1) := List.drop_eq_getElem_cons hlt1
      rw [hdrop1] at go3
      obtain ⟨F4, x5, rd4⟩ := v3 j x4 H4 _ hd1 y4
      have S4 : RepS K G F4 H4 σ2 δ2 := RepS.mix S0 S2 own2 (z3.trans x5) (y1.fs.trans (s3.trans x5.fs))
      refine ⟨F4, wipeD δ2 vs2, _, _, S4.wipe vs2, rd4, go3, fun σ5 δ5 o5 S5 p5 => ⟨wipe_only o5 h2, ?_⟩⟩
      refine ht _ _ _ ⟨F4, δ5, _, _, S5, p5, fun b F6 H6 x6 p6 => ?_, xok_true⟩
      cases b with
      | false =>
        rw [if_neg Bool.false_ne_true] at p6 ⊢
        have x7 := x5.trans x6
        obtain ⟨h', n'⟩ := x7.keepN hD3 hDf3 nd da3.nt
        exact ⟨hlt1, F6, u3, sv3, z3.trans x7, s3.trans x7.fs, h', n', da3.mono x7.fs, p6⟩
      | true =>
        rw [if_pos rfl] at p6 ⊢
        refine hk _ _ _ ⟨F6, δ5, _, _, S5.to x6, p6, fun yv F7 H7 r x7 q7 ⟨kd, ek, p7⟩ => ?_, xok_true⟩
        subst ek
        refine hv _ _ _ ⟨F7, δ5, _, _, (S5.to x6).to x7, p7, fun zv F8 H8 r x8 q8 ⟨v, er, pe⟩ => ?_, xok_true⟩
        obtain ⟨F9, x9, _, rd'⟩ := q8.freeze x8 er
        have x10 := ((x5.trans x6).trans x7).trans x9
        obtain ⟨h', n'⟩ := x10.keepN hD3 hDf3 nd da3.nt
        have da' := da3.mono x10.fs
        have q7' := RepD.mono x9.fs q7
        have fin : ∀ {u' : HO} {sv' : SV}, DictAt K F9 u' sv' → dcGo (wG fg1) (wT K ft) (wE K fk) (wE K fv) (fun sv' => (dc2F fg fi1 fg1 ft fk fv vs2 (wipeD δ vs) (items.drop (i + 1)) sv').sat (fun s => P s.rO) (fun _ => True)) (wipeD δ2 vs2) (items1.drop (j + 1)) sv' →
            j + 1 ≤ items1.length ∧ ∃ F u sv, Ext G.w F1 H1 F (upd H8 D u') ∧ Sub F2 F ∧ (upd H8 D u') D = some u ∧ F D = none ∧ DictAt K F u sv ∧ dcGo (wG fg1) (wT K ft) (wE K fk) (wE K fv) (fun sv' => (dc2F fg fi1 fg1 ft fk fv vs2 (wipeD δ vs) (items.drop (i + 1)) sv').sat (fun s => P s.rO) (fun _ => True)) (wipeD δ2 vs2) (items1.drop (j + 1)) sv := fun {u' sv'} da2 p5 =>
          ⟨hlt1, F9, u', sv', (z3.trans x10).write hD h' n' nd, s3.trans x10.fs, upd_same, n', da2, p5⟩
        cases sv3 with
        | oK kvs =>
          obtain ⟨kk, ek, hl, p5⟩ := pe
          obtain ⟨us, rfl, l⟩ := da'
          obtain rfl := RepD.key q7' ek
          exact ⟨_, DPut.k h' (by rw [RepKV.length l]; exact hl), fin (sv' := .oK (putD kvs kk v)) ⟨_, rfl, l.put rd'⟩ p5⟩
        | oT kvs =>
          obtain ⟨ds, ks, rfl, ek, hl, p5⟩ := pe
          obtain ⟨us, rfl, l⟩ := da'
          obtain ⟨b, vs', rfl, hb, lb⟩ := RepR.tuple (K := K) (w := G.w) (H := H8) x9.le (r := .im (.tuple ds)) q7' (xs := ds) rfl
          obtain rfl := RepL.keys lb ek
          exact ⟨_, DPut.t h' (x9.le _ _ hb) (by rw [RepKV.length l]; exact hl), fin (sv' := .oT (putD kvs ks v)) ⟨_, rfl, l.put rd'⟩ p5⟩
        | _ => exact pe.elim
    · have hn : j = items1.length := by omega
      subst hn
      rw [List.drop_length] at go3
      exact .inl ⟨v2, hlt, F3, u3, sv3, z3, hD3, hDf3, da3, go3⟩
  · have hn : i = items.length := by omega
    subst hn
    rw [List.drop_length] at go
    refine .inl ⟨w2, k _ F H sv.rO (x1.trans x2) ?_ go⟩
    cases sv with
    | oK kvs => obtain ⟨us, rfl, l⟩ := da; exact ⟨D, us, rfl, x1.none hD, hDl, hDf, nd, l⟩
    | oT kvs => obtain ⟨us, rfl, l⟩ := da; exact ⟨D, us, rfl, x1.none hD, hDl, hDf, nd, l⟩
    | _ => exact da.elim
section
variable {scope : Scope} {own : List (Str × Nat)} {vs2 : List Nat} {o0 : HO} {s0 : SV}
theorem e_dc2 (em : Em o0 s0) (hu : X.A.units + 1 < cLine) (hc : X.calm = true) (hN : X.N.Nodup) (hi : I_ X G W st tg iter fi) (ok : BlkOk X.N X.env.scope scope own)
    (hg : ∀ (s : Shared) (H : Hp) (C : Addr) (cl : List (Str × Addr)) (fp : List Addr), Go_ (X.blk s H scope (compEnvC scope cl C X.env) fp) G ts tg fg)
    (hi1 : ∀ (s : Shared) (H : Hp) (C : Addr) (cl : List (Str × Addr)) (fp : List Addr), I_ (X.blk s H scope (compEnvC scope cl C X.env) fp) G wTrue true tg1 iter1 fi1)
    (hg1 : ∀ (s : Shared) (H : Hp) (C : Addr) (cl : List (Str × Addr)) (fp : List Addr), G_ (X.blk s H scope (compEnvC scope cl C X.env) fp) G us tg1 fg1)
    (hk : ∀ (s : Shared) (H : Hp) (C : Addr) (cl : List (Str × Addr)) (fp : List Addr), E_ (X.blk s H scope (compEnvC scope cl C X.env) fp) G wTrue kx fk)
    (he : ∀ (s : Shared) (H : Hp) (C : Addr) (cl : List (Str × Addr)) (fp : List Addr), E_ (X.blk s H scope (compEnvC scope cl C X.env) fp) G wTrue vx fv)
    (hv : ∀ i ∈ vs2, i ∈ own.map (·.2) := by decide) (hts : ∀ t ∈ ts, t ∈ own.map (·.2) := by decide) (hus : ∀ t ∈ us, t ∈ vs2 := by decide) (hs : ∀ x, foldedSetIterable iter X.env x = pure x := by intro _; rfl) (hs1 : ∀ env x, foldedSetIterable iter1 env x = pure x := by intro _ _; rfl) :
    E_ X G W (.DictComp kx vx [⟨tg, iter, [], 0⟩, ⟨tg1, iter1, [], 0⟩] scope pos) (fDc2 s0 fi fg fi1 fg1 tYes fk fv (own.map (·.2)) vs2) :=
  PE.imp (pe_dG2 (vs1 := vs2) em.emp hu hc hN hi ok hv hg hi1 hg1 (fun _ _ _ _ _ => pts_nil) hk he hs hs1) fun σ H Q h => dc2_of em hts hus (fun σ H Q ⟨F, δ, P, PX, S, q, k, xk⟩ => k true F H S.ext.stay q) (fun _ _ _ h => h) (fun _ _ _ h => h) h
theorem e_dc2If (em : Em o0 s0) (hu : X.A.units + 1 < cLine) (hc : X.calm = true) (hN : X.N.Nodup) (hi : I_ X G W st tg iter fi) (ok : BlkOk X.N X.env.scope scope own)
    (hg : ∀ (s : Shared) (H : Hp) (C : Addr) (cl : List (Str × Addr)) (fp : List Addr), Go_ (X.blk s H scope (compEnvC scope cl C X.env) fp) G ts tg fg)
    (hi1 : ∀ (s : Shared) (H : Hp) (C : Addr) (cl : List (Str × Addr)) (fp : List Addr), I_ (X.blk s H scope (compEnvC scope cl C X.env) fp) G wTrue true tg1 iter1 fi1)
    (hg1 : ∀ (s : Shared) (H : Hp) (C : Addr) (cl : List (Str × Addr)) (fp : List Addr), G_ (X.blk s H scope (compEnvC scope cl C X.env) fp) G us tg1 fg1)
    (ht : ∀ (s : Shared) (H : Hp) (C : Addr) (cl : List (Str × Addr)) (fp : List Addr), T_ (X.blk s H scope (compEnvC scope cl C X.env) fp) G wTrue c ft)
    (hk : ∀ (s : Shared) (H : Hp) (C : Addr) (cl : List (Str × Addr)) (fp : List Addr), E_ (X.blk s H scope (compEnvC scope cl C X.env) fp) G wTrue kx fk)
    (he : ∀ (s : Shared) (H : Hp) (C : Addr) (cl : List (Str × Addr)) (fp : List Addr), E_ (X.blk s H scope (compEnvC scope cl C X.env) fp) G wTrue vx fv)
    (hv : ∀ i ∈ vs2, i ∈ own.map (·.2) := by decide) (hts : ∀ t ∈ ts, t ∈ own.map (·.2) := by decide) (hus : ∀ t ∈ us, t ∈ vs2 := by decide) (hs : ∀ x, foldedSetIterable iter X.env x = pure x := by intro _; rfl) (hs1 : ∀ env x, foldedSetIterable iter1 env x = pure x := by intro _ _; rfl) :
    E_ X G W (.DictComp kx vx [⟨tg, iter, [], 0⟩, ⟨tg1, iter1, [c], 0⟩] scope pos) (fDc2 s0 fi fg fi1 fg1 ft fk fv (own.map (·.2)) vs2) :=
  PE.imp (pe_dG2 (vs1 := vs2) em.emp hu hc hN hi ok hv hg hi1 hg1 (fun s H C cl fp => pts_one (ht s H C cl fp)) hk he hs hs1) fun σ H Q h => dc2_of em hts hus (fun _ _ _ h => h) (fun _ _ _ h => h) (fun _ _ _ h => h) h
theorem e_dcIf (em : Em o0 s0) (hu : X.A.units + 1 < cLine) (hc : X.calm = true) (hN : X.N.Nodup) (hi : I_ X G W st tg iter fi) (ok : BlkOk X.N X.env.scope scope own)
    (hg : ∀ (s : Shared) (H : Hp) (C : Addr) (cl : List (Str × Addr)) (fp : List Addr), G_ (X.blk s H scope (compEnvC scope cl C X.env) fp) G ts tg fg)
    (ht : ∀ (s : Shared) (H : Hp) (C : Addr) (cl : List (Str × Addr)) (fp : List Addr), T_ (X.blk s H scope (compEnvC scope cl C X.env) fp) G wTrue c ft)
    (hk : ∀ (s : Shared) (H : Hp) (C : Addr) (cl : List (Str × Addr)) (fp : List Addr), E_ (X.blk s H scope (compEnvC scope cl C X.env) fp) G wTrue kx fk) (hv : ∀ (s : Shared) (H : Hp) (C : Addr) (cl : List (Str × Addr)) (fp : List Addr), E_ (X.blk s H scope (compEnvC scope cl C X.env) fp) G wTrue vx fv)
    (hts : ∀ t ∈ ts, t ∈ own.map (·.2) := by decide) (hs : ∀ x, foldedSetIterable iter X.env x = pure x := by intro _; rfl) : E_ X G W (.DictComp kx vx [⟨tg, iter, [c], 0⟩] scope pos) (fDc s0 fi fg ft fk fv (own.map (·.2))) :=
  PE.imp (pe_dG em.emp hu hc hN hi ok hg (fun s H C cl fp => pts_one (ht s H C cl fp)) hk hv hs) fun σ H Q ⟨F, δ, P, PX, S, q, k, xk⟩ =>
    dc_of (wi := wI X.K fi) (wg := wG fg) (wt := wT X.K ft) (wk := wE X.K fk) (wv := wE X.K fv) em hts (fun _ _ _ h => h) (fun _ _ _ h => h) (fun _ _ _ h => h)
      ⟨F, δ, P, PX, S, Tr.sat_of (Tr.sat_bind.mp q) fun items qi => dcF_ok _ _ (Tr.sat_of (Tr.sat_bind.mp qi) fun s qs => qs), k, xk⟩
end
end
end FW
set_option Elab.async false
set_option linter.all false
set_option maxRecDepth 100000
set_option maxHeartbeats 4000000
namespace FW
open PySem PySem.Spec L2 DW
open PySem.W (alike dataLt rcLt_alike dataLt_str)
section
variable {K : PySem.W.Frag} {w : Option Dw} {G : Gd} {F F1 F2 F0 H H1 H2 : Hp} {σ σ2 : L2.St} {δ δ2 : DEnv}
variable {X : Cx} {W : WX} {st : Bool} {tg iter tg1 iter1 e a b c elt kx vx : Expr} {es rest : List Expr} {fe fa fb fc fo fk fv : FE} {ft fu : FT} {faa : FA} {fi fi1 : FI} {fg fg1 : FG} {fgs : FGs} {pos p np p2 apos cpos : Pos} {ts us : List Nat} {s : Stmt} {body : List Stmt} {x : Str}
/-! ### texts told, texts behind texts -/
theorem de_glS {z : Str} (hg : Gl X x) (h : ∃ t, X.mg x = some (.str z t)) (hd : (x == ("__debug__" : Str)) = false := by decide) : DE X G W (.Name x pos) (wC (.str z)) := by
  obtain ⟨t, h⟩ := h
  exact de_con (pe_glob (v := .str z) hg h ⟨t, rfl⟩ hd) fun _ => .str z
def gAddS : G2 := fun x y => match x, y with
  | .im (.str a), .im (.str b) => gd (szOk (a.length + b.length)) (.ok (.im (.str (a ++ b))))
  | _, _ => .no
theorem kg_addS : KG kCatS gAddS := by
  intro a b P PX h
  unfold gAddS at h
  split at h
  · obtain ⟨h1, h2⟩ := gd_sat h
    exact ⟨_, _, rfl, rfl, szOk_ok h1, h2⟩
  · exact h.elim
/-! ### a < b on data -/
def rLtD (K : PySem.W.Frag) : R2 := fun x y H Q => ∃ d e, Dp K H x d ∧ Dp K H y e ∧ alike d e = true ∧ d ≠ .none ∧ min d.depth e.depth < 64 ∧ Q (.bl (dataLt d e)) H
theorem op_ltD (hu : X.A.units + 64 < cLine) : OpR X (compareOp .Lt) (rLtD X.K) := by
  intro pins s σ H x y v u Q I rx ry ⟨d, e, h1, h2, ha, hn, hd, q⟩
  obtain ⟨as, r1⟩ := Dp.reads I d x v h1 rx
  obtain ⟨bs, r2⟩ := Dp.reads I e y u h2 ry
  exact rcLt_alike d e X.A s v u as bs r1 r2 ha hn (by omega) X.prog X.w _ _ ⟨.bl (dataLt d e), H, I, rfl, q⟩
def lay0 (d : D) : Bool := d.canLay0
def kLtD : KO := fun r1 r2 P => ∃ d e, r1.datA = some d ∧ r2.datA = some e ∧ d.canLay0 = true ∧ e.canLay0 = true ∧ alike d e = true ∧ d ≠ .none ∧ min d.depth e.depth < 64 ∧ P (.im (.bool (dataLt d e)))
theorem opd_ltD : OpD K (rLtD K) kLtD := by
  intro w H0 F H x y r1 r2 P Q x0 q1 q2 ⟨d, e, e1, e2, l1, l2, ha, hn, hd, p⟩ k
  exact ⟨d, e, q1.dp x0.le e1 l1, q2.dp x0.le e2 l2, ha, hn, hd, k _ F H (.im _) x0 (.bl _) p⟩
def isNn : D → Bool
  | .none => true
  | _ => false
def ltOk (d e : D) : Bool := d.canLay0 && e.canLay0 && alike d e && !isNn d && decide (min d.depth e.depth < 64)
def gLtD : G2 := fun x y => match x, y with
  | .im (.str a), .im (.str b) => gd (PyData.strOk a && PyData.strOk b) (.ok (.im (.bool (decide (a.cps.toList < b.cps.toList)))))
  | x, y => match x.datA, y.datA with
    | some d, some e => gd (ltOk d e) (.ok (.im (.bool (dataLt d e))))
    | _, _ => .no
theorem kg_ltD : KG kLtD gLtD := by
  intro a b P PX h
  unfold gLtD at h
  split at h
  · rename_i s1 s2
    obtain ⟨h0, h⟩ := gd_sat h
    rw [Bool.and_eq_true] at h0
    exact ⟨.str s1, .str s2, rfl, rfl, by simp [PyData.canLay0, h0.1], by simp [PyData.canLay0, h0.2], by simp [alike], (fun z => nomatch z), by simp [PyData.depth], by rw [dataLt_str]; exact h⟩
  · split at h
    · rename_i d e e1 e2
      obtain ⟨h1, h2⟩ := gd_sat h
      unfold ltOk at h1
      simp only [Bool.and_eq_true, decide_eq_true_eq] at h1
      obtain ⟨⟨⟨⟨a1, a2⟩, a3⟩, a4⟩, a5⟩ := h1
      exact ⟨d, e, e1, e2, a1, a2, a3, (fun z => by subst z; cases a4), a5, h2⟩
    · exact h.elim
theorem e_ltD (hu : X.A.units + 64 < cLine) (ha : E_ X G W a fa) (hb : E_ X G W b fb) : E_ X G W (.Compare a [.Lt] [b] pos) (fOp gLtD fa fb) := e_op (de_cmp (op_ltD hu) opd_ltD ha hb (nb _ (by decide) (by decide))) kg_ltD
theorem t_ltD (hu : X.A.units + 64 < cLine) (ha : E_ X G W a fa) (hb : E_ X G W b fb) : T_ X G W (.Compare a [.Lt] [b] pos) (tB (fOp gLtD fa fb)) := t_op (dt_cmp (op_ltD hu) opd_ltD ha hb (nb _ (by decide) (by decide))) kg_ltD
/-! ### a tuple times an int -/
def kMulT : KO := fun r1 r2 P => ∃ xs k, r1 = .im (.tuple xs) ∧ r2 = .im (.int k) ∧ xs ≠ [] ∧ 2 ≤ k ∧ k ≤ 1000 ∧ xs.length ≤ 1000 ∧ P (.im (.tuple (List.replicate k.toNat xs).flatten))
theorem RepL.rep {vs : List V} {ds : List D} (l : RepL K F vs ds) : ∀ n : Nat, RepL K F (List.replicate n vs).flatten (List.replicate n ds).flatten
  | 0 => .nil
  | n + 1 => by rw [List.replicate_succ, List.replicate_succ, List.flatten_cons, List.flatten_cons]; exact RepL.append l (RepL.rep l n)
theorem opd_mulT : OpD K (rRepT K) kMulT := by
  rintro w H0 F H x y r1 r2 P Q x0 q1 q2 ⟨xs, n, rfl, rfl, ne, h0, h1, h2, p⟩ k
  obtain ⟨a, vs, rfl, ha, l⟩ := q1.tuple x0.le (xs := xs) rfl
  cases q2
  refine ⟨a, n, vs, rfl, rfl, .inl (.inl (x0.le _ _ ha)), fun z => ne (by subst z; cases l; rfl), h0, h1, by rw [RepL.length l]; exact h2, fun pp hp => ?_⟩
  have x1 := x0.laid (u := .tup (List.replicate n.toNat vs).flatten) hp
  exact k _ _ _ (.im _) x1 (.tup upd_same (RepL.mono x1.fs (RepL.rep l _))) p
def gMulT : G2 := fun x y => match x, y with
  | .im (.tuple xs), .im (.int k) => gd (!xs.isEmpty && decide (2 ≤ k) && decide (k ≤ 1000) && decide (xs.length ≤ 1000)) (.ok (.im (.tuple (List.replicate k.toNat xs).flatten)))
  | _, _ => .no
theorem kg_mulT : KG kMulT gMulT := by
  intro a b P PX h
  unfold gMulT at h
  split at h
  · obtain ⟨h1, h2⟩ := gd_sat h
    simp only [Bool.and_eq_true, decide_eq_true_eq] at h1
    exact ⟨_, _, rfl, rfl, (fun z => by subst z; exact absurd h1.1.1.1 (by decide)), h1.1.1.2, h1.1.2, h1.2, h2⟩
  · exact h.elim
theorem e_mulT (ha : E_ X G W a fa) (hb : E_ X G W b fb) : E_ X G W (.BinOp a .Mult b pos) (fOp gMulT fa fb) := e_op (de_op op_repT opd_mulT ha hb) kg_mulT
/-! ### dicts gone through -/
def dBody : List (D × D) → List (D × D)
  | (.none, .none) :: r => r
  | r => r
theorem dBody_K {ks : List Key} {ds : List D} : dBody (kdK ks ds) = kdK ks ds := by
  unfold kdK
  cases ks with
  | nil => rfl
  | cons k r => cases ds with
    | nil => rfl
    | cons d t => cases k <;> rfl
theorem dBody_T {ks : List (List Key)} {ds : List D} : dBody (kdT ks ds) = (ks.map fun k => PyData.tuple (k.map keyD)).zip ds := rfl
theorem walkKK {d : Addr} {o : Obj} {ks : List Key} {vs : List V} {ds : List D} (hl : ks.length = vs.length) (l : RepL K F0 vs ds) : DWalk K w (fun F H => Sub F0 F ∧ H d = some (.frz o (.dK (ks.zip vs)))) (Itk d o (ks.zip vs)) ((kdK ks ds).map (·.1)) := by
  intro F H ⟨s0, h⟩ x0
  have e0 : (ks.zip vs).length = ((kdK ks ds).map (·.1)).length := by unfold kdK; simp [List.length_zip, RepL.length l]
  refine ⟨fun i hi => ⟨h, by rw [e0]; exact hi⟩, ⟨h, Nat.le_of_eq e0⟩, fun i x H' dd e y => ?_⟩
  obtain ⟨rfl, k, v, ekv, rfl⟩ := y
  obtain ⟨e1, e2⟩ := List.getElem?_zip_eq_some.mp ekv
  obtain ⟨d2, e3, _⟩ := RepL.get' l e2
  have : ((kdK ks ds).map (·.1))[i]? = some (keyD k) := by
    unfold kdK
    rw [List.getElem?_map]
    have : ((ks.map keyD).zip ds)[i]? = some (keyD k, d2) := List.getElem?_zip_eq_some.mpr ⟨by rw [List.getElem?_map, e1]; rfl, e3⟩
    rw [this]; rfl
  rw [this] at e
  cases e
  exact ⟨F, x0, keyD_rep k⟩
theorem walkKT {d : Addr} {o : Obj} {ks : List (List Key)} {vs : List V} {ds : List D} (hl : ks.length = vs.length) (l : RepL K F0 vs ds) : DWalk K w (fun F H => Sub F0 F ∧ H d = some (.frz o (.dT (ks.zip vs)))) (Itkt d o (ks.zip vs)) (((ks.map fun k => PyData.tuple (k.map keyD)).zip ds).map (·.1)) := by
  intro F H ⟨s0, h⟩ x0
  have e0 : (ks.zip vs).length = (((ks.map fun k => PyData.tuple (k.map keyD)).zip ds).map (·.1)).length := by simp [List.length_zip, RepL.length l]
  refine ⟨fun i hi => ⟨h, by rw [e0]; exact hi⟩, ⟨h, Nat.le_of_eq e0⟩, fun i x H' dd e y => ?_⟩
  obtain ⟨rfl, k, v, q, ekv, rfl, hq⟩ := y
  obtain ⟨e1, e2⟩ := List.getElem?_zip_eq_some.mp ekv
  obtain ⟨d2, e3, _⟩ := RepL.get' l e2
  have : (((ks.map fun k => PyData.tuple (k.map keyD)).zip ds).map (·.1))[i]? = some (.tuple (k.map keyD)) := by
    rw [List.getElem?_map]
    have : ((ks.map fun k => PyData.tuple (k.map keyD)).zip ds)[i]? = some (.tuple (k.map keyD), d2) := List.getElem?_zip_eq_some.mpr ⟨by rw [List.getElem?_map, e1]; rfl, e3⟩
    rw [this]; rfl
  rw [this] at e
  cases e
  obtain ⟨F2, x2, s2, e4⟩ := Ext.tupIn x0 hq
  exact ⟨F2, x2, .tup e4 (keysD_rep k)⟩
theorem walkKV {d : Addr} {o : Obj} {ks : List Key} {vs : List V} {ds : List D} (hl : ks.length = vs.length) (l : RepL K F0 vs ds) : DWalk K w (fun F H => Sub F0 F ∧ H d = some (.frz o (.dK (ks.zip vs)))) (Itd d o (ks.zip vs)) ((kdK ks ds).map (·.2)) := by
  intro F H ⟨s0, h⟩ x0
  have e0 : (ks.zip vs).length = ((kdK ks ds).map (·.2)).length := by unfold kdK; simp [List.length_zip, RepL.length l]
  refine ⟨fun i hi => ⟨h, by rw [e0]; exact hi⟩, ⟨h, Nat.le_of_eq e0⟩, fun i x H' dd e y => ?_⟩
  obtain ⟨rfl, k, ekv⟩ := y
  obtain ⟨e1, e2⟩ := List.getElem?_zip_eq_some.mp ekv
  obtain ⟨d2, e3, r⟩ := RepL.get' l e2
  have : ((kdK ks ds).map (·.2))[i]? = some d2 := by
    unfold kdK
    rw [List.getElem?_map]
    have : ((ks.map keyD).zip ds)[i]? = some (keyD k, d2) := List.getElem?_zip_eq_some.mpr ⟨by rw [List.getElem?_map, e1]; rfl, e3⟩
    rw [this]; rfl
  rw [this] at e
  cases e
  exact ⟨F, x0, RepD.mono s0 r⟩
def pairsD (m : List (D × D)) : List D := m.map fun kv => .tuple [kv.1, kv.2]
theorem walkKI {d : Addr} {o : Obj} {ks : List Key} {vs : List V} {ds : List D} (hl : ks.length = vs.length) (l : RepL K F0 vs ds) : DWalk K w (fun F H => Sub F0 F ∧ H d = some (.frz o (.dK (ks.zip vs)))) (Iti d o (ks.zip vs)) (pairsD (kdK ks ds)) := by
  intro F H ⟨s0, h⟩ x0
  have e0 : (ks.zip vs).length = (pairsD (kdK ks ds)).length := by unfold pairsD kdK; simp [List.length_zip, RepL.length l]
  refine ⟨fun i hi => ⟨h, by rw [e0]; exact hi⟩, ⟨h, Nat.le_of_eq e0⟩, fun i x H' dd e y => ?_⟩
  obtain ⟨T, k, v, ekv, rfl, hT, rfl⟩ := y
  obtain ⟨e1, e2⟩ := List.getElem?_zip_eq_some.mp ekv
  obtain ⟨d2, e3, r⟩ := RepL.get' l e2
  have : (pairsD (kdK ks ds))[i]? = some (.tuple [keyD k, d2]) := by
    unfold pairsD kdK
    rw [List.getElem?_map]
    have : ((ks.map keyD).zip ds)[i]? = some (keyD k, d2) := List.getElem?_zip_eq_some.mpr ⟨by rw [List.getElem?_map, e1]; rfl, e3⟩
    rw [this]; rfl
  rw [this] at e
  cases e
  have x1 := x0.laid (u := .tup [kV k, v]) hT
  exact ⟨_, x1, .tup upd_same (.cons (keyD_rep k) (.cons (RepD.mono (s0.trans x1.fs) r) .nil))⟩
theorem stFz {d : Addr} {u : HO} : StC w true (fun F H => Sub F0 F ∧ H d = some u ∧ F d = some u) := fun F H F' H' ⟨s0, _, hf⟩ s1 s2 => ⟨s0.trans s1, s2 _ _ (s1 _ _ hf), s1 _ _ hf⟩
def iKeys (f : FE) : FI := fun δ => (f δ).bind fun r => match r with
  | .im (.dict m) => .ok ((dBody m).map (·.1))
  | _ => .no
theorem i_keys (he : E_ X G W e fe) : I_ X G W true tg e (iKeys fe) := PI.imp (pi_keys he) fun σ H R ⟨F, δ, P, PX, S, q, k, xk⟩ => by
  refine ⟨F, δ, _, PX, S, Tr.sat_bind.mp q, fun v F1 H1 r x1 q1 p1 => ?_, xk⟩
  split at p1
  · rename_i m
    cases q1 with
    | dicK h hl l =>
      rename_i a o ks vs ds
      have h' := x1.le _ _ h
      refine ⟨a, o, rfl, .inl ⟨_, h', k _ (fun F H => Sub F1 F ∧ H a = some (.frz o (.dK (ks.zip vs))) ∧ F a = some (.frz o (.dK (ks.zip vs)))) F1 H1 _ x1 ⟨Sub.refl, h', h⟩ (fun F H c x0 => walkKK hl l F H ⟨c.1, c.2.1⟩ x0) stFz (by rw [← dBody_K (ks := ks) (ds := ds)]; exact p1)⟩⟩
    | dicT h hl l =>
      rename_i a o ks vs ds
      have h' := x1.le _ _ h
      exact ⟨a, o, rfl, .inr ⟨_, h', k _ (fun F H => Sub F1 F ∧ H a = some (.frz o (.dT (ks.zip vs))) ∧ F a = some (.frz o (.dT (ks.zip vs)))) F1 H1 _ x1 ⟨Sub.refl, h', h⟩ (fun F H c x0 => walkKT hl l F H ⟨c.1, c.2.1⟩ x0) stFz p1⟩⟩
  · exact p1.elim
def isDK : List (D × D) → Bool
  | (.none, .none) :: r => false
  | _ => true
theorem isDK_T {ks : List (List Key)} {ds : List D} : isDK (kdT ks ds) = false := rfl
def iVals (f : FE) : FI := fun δ => (f δ).bind fun r => match r with
  | .im (.dict m) => gd (isDK m) (.ok (m.map (·.2)))
  | _ => .no
def iItems (f : FE) : FI := fun δ => (f δ).bind fun r => match r with
  | .im (.dict m) => gd (isDK m) (.ok (pairsD m))
  | _ => .no
theorem i_values (he : E_ X G W e fe) (hbase : attributeBase e "values" X.env (eval e X.env) = eval e X.env := by rfl) (hline : (apos.endLine == cpos.line) = true := by rfl) : I_ X G W true tg (.Call (.Attribute e "values" apos) [] [] cpos) (iVals fe) := PI.imp (pi_values he hbase hline) fun σ H R ⟨F, δ, P, PX, S, q, k, xk⟩ => by
  refine ⟨F, δ, _, PX, S, Tr.sat_bind.mp q, fun v F1 H1 r x1 q1 p1 => ?_, xk⟩
  split at p1
  · rename_i m
    obtain ⟨g1, p1⟩ := gd_sat p1
    cases q1 with
    | dicK h hl l =>
      rename_i a o ks vs ds0 ds
      have h' := x1.le _ _ h
      exact ⟨a, o, _, rfl, h', k _ (fun F H => Sub F1 F ∧ H a = some (.frz o (.dK (ks.zip vs))) ∧ F a = some (.frz o (.dK (ks.zip vs)))) F1 H1 _ x1 ⟨Sub.refl, h', h⟩ (fun F H c x0 => walkKV hl l F H ⟨c.1, c.2.1⟩ x0) stFz p1⟩
    | dicT h hl l => cases g1
  · exact p1.elim
theorem i_items {elts : List Expr} {kk : Nat} {tpos : Pos} (he : E_ X G W e fe) (hbase : attributeBase e "items" X.env (eval e X.env) = eval e X.env := by rfl) (hline : (apos.endLine == cpos.line) = true := by rfl) : I_ X G W true (.Tuple elts kk tpos) (.Call (.Attribute e "items" apos) [] [] cpos) (iItems fe) := PI.imp (pi_items he hbase hline) fun σ H R ⟨F, δ, P, PX, S, q, k, xk⟩ => by
  refine ⟨F, δ, _, PX, S, Tr.sat_bind.mp q, fun v F1 H1 r x1 q1 p1 => ?_, xk⟩
  split at p1
  · rename_i m
    obtain ⟨g1, p1⟩ := gd_sat p1
    cases q1 with
    | dicK h hl l =>
      rename_i a o ks vs ds0 ds
      have h' := x1.le _ _ h
      exact ⟨a, o, _, rfl, h', k _ (fun F H => Sub F1 F ∧ H a = some (.frz o (.dK (ks.zip vs))) ∧ F a = some (.frz o (.dK (ks.zip vs)))) F1 H1 _ x1 ⟨Sub.refl, h', h⟩ (fun F H c x0 => walkKI hl l F H ⟨c.1, c.2.1⟩ x0) stFz p1⟩
    | dicT h hl l => cases g1
  · exact p1.elim
section
variable {scope : Scope} {own : List (Str × Nat)} {vs2 : List Nat} {y : Str} {py spos : Pos}
theorem s_setLc2If {i : Nat} (hc : X.calm = true) (hN : X.N.Nodup) (hy : X.N[i]? = some y) (hyl : X.env.scope.names.lookup y = some .local) (hsw : swapsWith (.ListComp elt [⟨tg, iter, [], 0⟩, ⟨tg1, iter1, [c], 0⟩] scope pos) (some (.Name y py)) spos.line X.env = pure true)
    (hi : I_ X G W st tg iter fi) (ok : BlkOk X.N X.env.scope scope own)
    (hg : ∀ (s : Shared) (H : Hp) (C : Addr) (cl : List (Str × Addr)) (fp : List Addr), Go_ (X.blk s H scope (compEnvC scope cl C X.env) fp) G ts tg fg)
    (hi1 : ∀ (s : Shared) (H : Hp) (C : Addr) (cl : List (Str × Addr)) (fp : List Addr), I_ (X.blk s H scope (compEnvC scope cl C X.env) fp) G wTrue true tg1 iter1 fi1)
    (hg1 : ∀ (s : Shared) (H : Hp) (C : Addr) (cl : List (Str × Addr)) (fp : List Addr), G_ (X.blk s H scope (compEnvC scope cl C X.env) fp) G us tg1 fg1)
    (ht : ∀ (s : Shared) (H : Hp) (C : Addr) (cl : List (Str × Addr)) (fp : List Addr), T_ (X.blk s H scope (compEnvC scope cl C X.env) fp) G wTrue c ft)
    (he : ∀ (s : Shared) (H : Hp) (C : Addr) (cl : List (Str × Addr)) (fp : List Addr), E_ (X.blk s H scope (compEnvC scope cl C X.env) fp) G wTrue elt fe)
    (hv : ∀ i ∈ vs2, i ∈ own.map (·.2) := by decide) (hts : ∀ t ∈ ts, t ∈ own.map (·.2) := by decide) (hus : ∀ t ∈ us, t ∈ vs2 := by decide) (hs : ∀ x, foldedSetIterable iter X.env x = pure x := by intro _; rfl) (hs1 : ∀ env x, foldedSetIterable iter1 env x = pure x := by intro _ _; rfl) :
    S_ X G W (.Assign [.Name y py] (.ListComp elt [⟨tg, iter, [], 0⟩, ⟨tg1, iter1, [c], 0⟩] scope pos) spos) (sSetF i (fLc2 fi fg fi1 fg1 ft fe (own.map (·.2)) vs2)) :=
  DS.imp (ws := sSet i (wE X.K (fLc2 fi fg fi1 fg1 ft fe (own.map (·.2)) vs2))) (PS.imp (ps_setLc2 (vs1 := vs2) hc hN hy hyl hsw hi ok hv hg (fun _ _ _ _ _ => pts_nil) hi1 hg1 (fun s H C cl fp => pts_one (ht s H C cl fp)) he hs hs1) fun D σ H h => by
    have q : tAsg (dT X.K G W (wE X.K (fLc2 fi fg fi1 fg1 ft fe (own.map (·.2)) vs2))) (gName i) D σ H := set_of h
    unfold tAsg at q ⊢
    exact lc2_of (K := X.K) (G := G) (W := W) (st := st) (fi := fi) (fg := fg) (fi1 := fi1) (fg1 := fg1) (ft := ft) (fe := fe) (vs := own.map (·.2)) (vs2 := vs2) hts hus (fun _ _ _ h => h) (fun _ _ _ h => h) q) fun E δ q => set_imp q
end
end
end FW
set_option Elab.async false
set_option linter.all false
set_option maxRecDepth 100000
set_option maxHeartbeats 4000000
/-! the law's own body -/
namespace FW
open PySem PySem.Spec L2 DW
/-- what the law gives, its drawer laid into slot 1 -/
def lawF (n : Nat) (b : FS) : Tr R := (b (none :: some .drw :: List.replicate (n - 2) none)).bind fun o => match o with
  | .nx _ => .ok (.im .none)
  | .rt r => gd r.given (.ok r)
  | _ => .no
theorem law_sem {K : PySem.W.Frag} {n : Nat} {b : FS} (h : (lawF (n + 2) b).sat (fun r => r = .im (.bool true)) fun _ => False) {P : R → Prop} {PX : DX → Prop} (p : P (.im (.bool true))) : wS K b (fnEnds P PX) (none :: some .drw :: List.replicate n none) :=
  Tr.sat_mono (Tr.sat_bind.mp h) (fun o qo => by
    cases o with
    | nx δ => cases (show R.im PyData.none = R.im (.bool true) from qo)
    | rt r =>
      obtain ⟨h1, h2⟩ := gd_sat qo
      have h2 : r = R.im (.bool true) := h2
      subst h2
      exact ⟨h1, p⟩
    | bk δ => exact qo.elim
    | ct δ => exact qo.elim) fun _ z => z.elim
theorem take_dSp {K : PySem.W.Frag} {vs : List V} {H : Hp} {Q : VK} {E : XK} (h : dSp K 2 (SC K F_take) vs H Q E) : dSp K 2 S_take vs H Q E := by
  obtain ⟨w, F, rs, P, PX, x, q, g, hl, hs, k⟩ := h
  refine ⟨w, F, rs, P, PX, x, q, g, hl, ?_, k⟩
  have hs : (F_take rs).sat P fun _ => False := hs
  unfold F_take at hs
  split at hs
  · exact ⟨_, rfl, hs.1, hs.2.1, hs.2.2⟩
  · exact hs.elim
def clsBody : Stmt → List Stmt
  | .ClassDef _ _ _ body .. => body
  | _ => []
def ieOf (st : Stmt) (x q0 : Str) : IeD := let d := (clsBody st).getD 0 st; ⟨x, q0, defArgs d, defBody d, defScope d⟩
end FW
set_option Elab.async false
set_option linter.all false
set_option maxRecDepth 100000
set_option maxHeartbeats 4000000
/-! plain lemmas for what the functions compute -/
namespace FW
open PySem PySem.Spec L2 DW
/-! ### steps -/
theorem bind_ok {α β : Type} {a : α} {f : α → Tr β} : (Tr.ok a).bind f = f a := rfl
theorem gd_t {α : Type} {t : Tr α} : gd true t = t := rfl
theorem calm_ok {α : Type} {a : α} : calm (Tr.ok a) = .ok a := rfl
theorem calm_of {α : Type} {t : Tr α} {a : α} (h : t = .ok a) : calm t = .ok a := by rw [h]; rfl
/-- values -/
theorem ix_tup {xs : List D} {i : Nat} {d : D} (h : xs[i]? = some d) : gIx (.im (.tuple xs)) (.im (.int (i : Nat))) = .ok (.im d) := by
  have hi := (List.getElem?_eq_some_iff.mp h).1
  show (ofO (atI xs (i : Int))).bind _ = _
  have : atI xs (i : Int) = some d := by
    unfold atI ixN
    rw [if_pos (by omega), if_pos (by omega)]
    simpa using h
  rw [this]; rfl
theorem ix_bl {xs : List D} {i : Nat} {d : D} (h : xs[i]? = some d) : gIx (.bl xs) (.im (.int (i : Nat))) = .ok (.im d) := by
  have hi := (List.getElem?_eq_some_iff.mp h).1
  show (ofO (atI xs (i : Int))).bind _ = _
  have : atI xs (i : Int) = some d := by
    unfold atI ixN
    rw [if_pos (by omega), if_pos (by omega)]
    simpa using h
  rw [this]; rfl
/-! ### words -/
def tx (l : List Nat) : Str := ⟨(l.map (97 + ·)).toArray⟩
theorem tx_app {a b : List Nat} : tx a ++ tx b = tx (a ++ b) := by
  show (⟨_ ++ _⟩ : Str) = _
  unfold tx
  simp
theorem tx_len {a : List Nat} : (tx a).length = a.length := by
  show (tx a).cps.size = _
  unfold tx; simp
theorem tx_cps {a : List Nat} : (tx a).cps.toList = a.map (97 + ·) := by unfold tx; simp
theorem tx_inj {a b : List Nat} (h : tx a = tx b) : a = b := by
  have : (tx a).cps.toList = (tx b).cps.toList := by rw [h]
  rw [tx_cps, tx_cps] at this
  exact List.map_inj_right (fun x y e => by omega) |>.mp this
theorem signs_tx {a : List Nat} : signs (tx a) = a.map fun i => .str (tx [i]) := by
  unfold signs
  rw [tx_cps, List.map_map]
  rfl
theorem sign1_tx {i : Nat} : sign1 (tx [i]) = some (97 + i) := rfl
theorem addS_tx {a b : List Nat} (h : a.length + b.length ≤ 1000000) : gAddS (.im (.str (tx a))) (.im (.str (tx b))) = .ok (.im (.str (tx (a ++ b)))) := by
  unfold gAddS
  show gd (szOk _) _ = _
  rw [tx_len, tx_len, tx_app]
  unfold szOk
  rw [decide_eq_true (by omega)]; rfl
theorem add_tx {a b : List Nat} (h : a.length + b.length ≤ 1000000) : gAdd (.im (.str (tx a))) (.im (.str (tx b))) = .ok (.im (.str (tx (a ++ b)))) := by
  unfold gAdd
  show gd (szOk _) _ = _
  rw [tx_len, tx_len, tx_app]
  unfold szOk
  rw [decide_eq_true (by omega)]; rfl
/-! ### statements -/
section
variable {δ δ' δ1 δ2 : DEnv} {s t a b : FS} {f fa fb fc fk fv : FE} {faa : FA} {ft fu : FT} {g : FG} {r r1 r2 r3 x y z : R} {v : SV} {d : D} {ds xs ys : List D} {rs : List R} {i n : Nat} {o : Tr Fl} {N : List Str} {F : FD}
theorem sq_nx (h : s δ = .ok (.nx δ')) : sSq s t δ = t δ' := by unfold sSq; rw [h]; rfl
theorem sq_rt (h : s δ = .ok (.rt r)) : sSq s t δ = .ok (.rt r) := by unfold sSq; rw [h]; rfl
theorem sq_ex {x : Xn} (h : s δ = .ex x) : sSq s t δ = .ex x := by unfold sSq; rw [h]; rfl
theorem if_t (h : ft δ = .ok true) : sIfF ft a b δ = a δ := by unfold sIfF; rw [h]; rfl
theorem if_f (h : ft δ = .ok false) : sIfF ft a b δ = b δ := by unfold sIfF; rw [h]; rfl
theorem set_ok (h : f δ = .ok r) (e : r.sv = some v) : sSetF i f δ = .ok (.nx (δ.set i (some v))) := by unfold sSetF; rw [h, bind_ok]; (try dsimp only); rw [e]
theorem asg_ok (h : f δ = .ok r) (e : r.dat = some d) (hg : g d δ = .ok δ') : sAsgF f g δ = .ok (.nx δ') := by unfold sAsgF; rw [h, bind_ok]; (try dsimp only); rw [e]; (try dsimp only); rw [hg]; rfl
theorem aug_ok {gg : G2} {s0 : SV} (h0 : slotD δ i = some s0) (h : f δ = .ok r) (hg : gg s0.read r = .ok r1) (e : r1.sv = some v) : sAugF i gg f δ = .ok (.nx (δ.set i (some v))) := by unfold sAugF; rw [h0]; (try dsimp only); rw [h, bind_ok, hg, bind_ok]; (try dsimp only); rw [e]
theorem drop_ok (h : f δ = .ok r) : sDropF f δ = .ok (.nx δ) := by unfold sDropF; rw [h]; rfl
theorem ret_ok (h : f δ = .ok r) : sRetF f δ = .ok (.rt r) := by unfold sRetF; rw [h]; rfl
theorem app_ok (h0 : slotD δ i = some (.ol xs)) (h : f δ = .ok r) (e : r.dat = some d) (hl : xs.length < 16777216) : sAppF i f δ = .ok (.nx (δ.set i (some (.ol (xs ++ [d]))))) := by unfold sAppF; rw [h0]; (try dsimp only); rw [h, bind_ok]; (try dsimp only); rw [e]; (try dsimp only); rw [decide_eq_true hl]; rfl
theorem ext_ok (h0 : slotD δ i = some (.ol xs)) (h : f δ = .ok r) (e : r.own = some ys) (hl : xs.length + ys.length ≤ 16777216) : sExtF i f δ = .ok (.nx (δ.set i (some (.ol (xs ++ ys))))) := by unfold sExtF; rw [h0]; (try dsimp only); rw [h, bind_ok]; (try dsimp only); rw [e]; (try dsimp only); unfold szOk; rw [decide_eq_true hl]; rfl
theorem put_ok {s0 s1 : SV} {kd : D} (h0 : slotD δ i = some s0) (hv : fv δ = .ok r) (e : r.dat = some d) (hk : fk δ = .ok (.im kd)) (hp : putF s0 kd d = .ok s1) : sPutF i fk fv δ = .ok (.nx (δ.set i (some s1))) := by
  unfold sPutF; rw [h0]; (try dsimp only); rw [hv, bind_ok]; (try dsimp only); rw [e]; (try dsimp only); rw [hk, bind_ok]; (try dsimp only); rw [hp]; rfl
theorem for_ok {fi : FI} (h : fi δ = .ok xs) (hf : forF g s xs δ = o) : sForF fi g s δ = o := by unfold sForF; rw [h]; exact hf
theorem fn_ok (h : s (startD N rs) = .ok (.rt r)) (e : r.given = true) : fnF N s rs = .ok r := by unfold fnF; rw [h, bind_ok]; (try dsimp only); rw [e]; rfl
theorem fn_nx (h : s (startD N rs) = .ok (.nx δ)) : fnF N s rs = .ok (.im .none) := by unfold fnF; rw [h]; rfl
theorem fn_ex {x : Xn} (h : s (startD N rs) = .ex x) : fnF N s rs = .ex x := by unfold fnF; rw [h]; rfl
/-! ### expressions -/
theorem op_ok {gg : G2} (ha : fa δ = .ok x) (hb : fb δ = .ok y) (hg : gg x y = .ok z) : fOp gg fa fb δ = .ok z := by unfold fOp; rw [ha, bind_ok, hb, bind_ok, hg]
theorem tB_ok {c : Bool} (h : f δ = .ok (.im (.bool c))) : tB f δ = .ok c := by unfold tB; rw [h]; rfl
theorem tNot_ok {c : Bool} (h : ft δ = .ok c) : tNotF ft δ = .ok (!c) := by unfold tNotF; rw [h]; rfl
theorem tAnd_t {c : Bool} (h : ft δ = .ok true) (h2 : fu δ = .ok c) : tAndF ft fu δ = .ok c := by unfold tAndF; rw [h]; exact h2
theorem tAnd_f (h : ft δ = .ok false) : tAndF ft fu δ = .ok false := by unfold tAndF; rw [h]; rfl
theorem tOr_f {c : Bool} (h : ft δ = .ok false) (h2 : fu δ = .ok c) : tOrF ft fu δ = .ok c := by unfold tOrF; rw [h]; exact h2
theorem tOr_t (h : ft δ = .ok true) : tOrF ft fu δ = .ok true := by unfold tOrF; rw [h]; rfl
theorem fIf_t (h : ft δ = .ok true) (h2 : fa δ = .ok x) : fIf ft fa fb δ = .ok x := by unfold fIf; rw [h]; exact h2
theorem fIf_f (h : ft δ = .ok false) (h2 : fb δ = .ok x) : fIf ft fa fb δ = .ok x := by unfold fIf; rw [h]; exact h2
theorem cons_ok (h : f δ = .ok r) (hs : faa δ = .ok rs) : aCons f faa δ = .ok (r :: rs) := by unfold aCons; rw [h, bind_ok, hs]; rfl
theorem fcons_ok (h : f δ = .ok r) (e : r.frz = some r1) (hs : faa δ = .ok rs) : aFCons f faa δ = .ok (r1 :: rs) := by unfold aFCons; rw [h, bind_ok]; (try dsimp only); rw [e]; (try dsimp only); rw [hs]; rfl
theorem tup_ok (h : faa δ = .ok rs) (e : dats rs = some ds) (hl : ds.length ≤ 16777216) : fTup faa δ = .ok (.im (.tuple ds)) := by unfold fTup; rw [h, bind_ok]; (try dsimp only); rw [e]; (try dsimp only); unfold szOk; rw [decide_eq_true hl]; rfl
theorem lst_ok (h : faa δ = .ok rs) (e : dats rs = some ds) (hl : ds.length ≤ 16777216) : fLst faa δ = .ok (.ol ds) := by unfold fLst; rw [h, bind_ok]; (try dsimp only); rw [e]; (try dsimp only); unfold szOk; rw [decide_eq_true hl]; rfl
theorem call_ok {gg : G1} (h : faa δ = .ok rs) (hg : gg rs = .ok r) : fCall gg faa δ = .ok r := by unfold fCall; rw [h]; exact hg
theorem mtk_ok {okB : R → Bool} {gg : GM} (h : f δ = .ok r) (ho : okB r = true) (ha : faa δ = .ok rs) (hg : gg r rs = .ok z) : fMtK okB gg f faa δ = .ok z := by unfold fMtK; rw [h, bind_ok]; rw [ho]; show (faa δ).bind _ = _; rw [ha]; exact hg
theorem callC_ok (h : faa δ = .ok rs) (hp : (rs.all plainR && decide (rs.length = n)) = true) (hF : F rs = .ok r) : fCallC n F faa δ = .ok r := by unfold fCallC; rw [h, bind_ok, hp, hF]; rfl
theorem callF_ok (h : faa δ = .ok rs) (hp : (rs.all plainR && decide (rs.length = n)) = true) (hF : F rs = .ok r) : fCallF n F faa δ = .ok r := by unfold fCallF; rw [h, bind_ok, hp, hF]; rfl
theorem all_ok {bs : List Bool} (h : xs = bs.map .bool) : gAll [.ol xs] = .ok (.im (.bool (bs.all id))) := by
  subst h
  have e : ∀ l : List Bool, boolsOf (l.map .bool) = some l := fun l => by
    induction l with
    | nil => rfl
    | cons b r ih => rw [List.map_cons, boolsOf, ih]; rfl
  unfold gAll
  show (ofO (boolsOf _)).bind _ = _
  rw [e]; rfl
theorem any_ok {bs : List Bool} (h : xs = bs.map .bool) : gAny [.ol xs] = .ok (.im (.bool (bs.any id))) := by
  subst h
  have e : ∀ l : List Bool, boolsOf (l.map .bool) = some l := fun l => by
    induction l with
    | nil => rfl
    | cons b r ih => rw [List.map_cons, boolsOf, ih]; rfl
  unfold gAny
  show (ofO (boolsOf _)).bind _ = _
  rw [e]; rfl
end
/-! ### walks -/
theorem forF_ok1 {g : FG} {b : FS} {β : Type} (Inv : β → DEnv → Prop) (step : β → D → β) : ∀ (items : List D) (a : β) (δ : DEnv), Inv a δ → (∀ a δ d, d ∈ items → Inv a δ → ∃ δ1 δ2, g d δ = .ok δ1 ∧ b δ1 = .ok (.nx δ2) ∧ Inv (step a d) δ2) →
    ∃ δ', forF g b items δ = .ok (.nx δ') ∧ Inv (items.foldl step a) δ'
  | [], a, δ, h, _ => ⟨δ, rfl, h⟩
  | d :: ds, a, δ, h, hs => by
    obtain ⟨δ1, δ2, e1, e2, h2⟩ := hs a δ d (List.mem_cons_self ..) h
    obtain ⟨δ', e3, h3⟩ := forF_ok1 Inv step ds (step a d) δ2 h2 fun a δ d hd => hs a δ d (List.mem_cons_of_mem _ hd)
    refine ⟨δ', ?_, h3⟩
    rw [forF, e1]
    show (b δ1).bind _ = _
    rw [e2]
    exact e3
theorem lc_ok {α : Type} {e h : α → D} {g : FG} {f : FE} {δ0 : DEnv} : ∀ (ts : List α) (acc : List D), acc.length + ts.length ≤ 16777216 → (∀ d ∈ ts, ∃ δ1 r, g (e d) δ0 = .ok δ1 ∧ f δ1 = .ok r ∧ r.dat = some (h d)) → lcF g tYes f δ0 (ts.map e) acc = .ok (acc ++ ts.map h)
  | [], acc, _, _ => by rw [List.map_nil, lcF, List.map_nil, List.append_nil]
  | d :: ds, acc, hl, hs => by
    obtain ⟨δ1, r, e1, e2, e3⟩ := hs d (List.mem_cons_self ..)
    have hl' : acc.length + (ds.length + 1) ≤ 16777216 := by simpa using hl
    rw [List.map_cons, lcF, e1]
    show (calm (f δ1)).bind _ = _
    rw [e2]
    show (match r.dat with | some d' => _ | none => _) = _
    rw [e3]
    show gd _ _ = _
    rw [decide_eq_true (by omega)]
    show lcF g tYes f δ0 (ds.map e) (acc ++ [h d]) = _
    rw [lc_ok ds (acc ++ [h d]) (by simp; omega) fun d hd => hs d (List.mem_cons_of_mem _ hd), List.map_cons, List.append_assoc]
    rfl
theorem flc_ok {α : Type} {e h : α → D} {g : FG} {f : FE} {δ : DEnv} {fi : FI} {ts : List α} {vs : List Nat} (hi : fi δ = .ok (ts.map e)) (hl : ts.length ≤ 16777216) (hs : ∀ d ∈ ts, ∃ δ1 r, g (e d) (wipeD δ vs) = .ok δ1 ∧ f δ1 = .ok r ∧ r.dat = some (h d)) : fLc fi g tYes f vs δ = .ok (.ol (ts.map h)) := by
  unfold fLc
  rw [hi, bind_ok, lc_ok ts [] (by simpa using hl) hs]
  rfl
/-- with a test -/
theorem lcIf_ok {α : Type} {e h : α → D} {g : FG} {t : FT} {f : FE} {c : α → Bool} {δ0 : DEnv} : ∀ (ts : List α) (acc : List D), acc.length + ts.length ≤ 16777216 → (∀ d ∈ ts, ∃ δ1, g (e d) δ0 = .ok δ1 ∧ t δ1 = .ok (c d) ∧ (c d = true → ∃ r, f δ1 = .ok r ∧ r.dat = some (h d))) → lcF g t f δ0 (ts.map e) acc = .ok (acc ++ (ts.filter c).map h)
  | [], acc, _, _ => by rw [List.map_nil, lcF, List.filter_nil, List.map_nil, List.append_nil]
  | d :: ds, acc, hl, hs => by
    obtain ⟨δ1, e1, e2, e3⟩ := hs d (List.mem_cons_self ..)
    have hl' : acc.length + (ds.length + 1) ≤ 16777216 := by simpa using hl
    rw [List.map_cons, lcF, e1]
    show (calm (t δ1)).bind _ = _
    rw [e2]
    cases hc : c d with
    | false =>
      show lcF g t f δ0 (ds.map e) acc = _
      rw [lcIf_ok ds acc (by omega) fun d hd => hs d (List.mem_cons_of_mem _ hd), List.filter_cons_of_neg (by rw [hc]; exact Bool.false_ne_true)]
    | true =>
      obtain ⟨r, e4, e5⟩ := e3 hc
      show (calm (f δ1)).bind _ = _
      rw [e4]
      show (match r.dat with | some d' => _ | none => _) = _
      rw [e5]
      show gd _ _ = _
      rw [decide_eq_true (by omega)]
      show lcF g t f δ0 (ds.map e) (acc ++ [h d]) = _
      rw [lcIf_ok ds (acc ++ [h d]) (by simp; omega) fun d hd => hs d (List.mem_cons_of_mem _ hd), List.filter_cons_of_pos hc, List.map_cons, List.append_assoc]
      rfl
theorem flcIf_ok {α : Type} {e h : α → D} {g : FG} {t : FT} {f : FE} {c : α → Bool} {δ : DEnv} {fi : FI} {ts : List α} {vs : List Nat} (hi : fi δ = .ok (ts.map e)) (hl : ts.length ≤ 16777216) (hs : ∀ d ∈ ts, ∃ δ1, g (e d) (wipeD δ vs) = .ok δ1 ∧ t δ1 = .ok (c d) ∧ (c d = true → ∃ r, f δ1 = .ok r ∧ r.dat = some (h d))) : fLc fi g t f vs δ = .ok (.ol ((ts.filter c).map h)) := by
  unfold fLc
  rw [hi, bind_ok, lcIf_ok ts [] (by simpa using hl) hs]
  rfl
end FW
namespace FW
open PySem PySem.Spec L2 DW
theorem forF_ix {g : FG} {b : FS} (Inv : Nat → DEnv → Prop) (items : List D) : ∀ (ds : List D) (k : Nat) (δ : DEnv), items.drop k = ds → Inv k δ → (∀ i d δ, items[i]? = some d → Inv i δ → ∃ δ1 δ2, g d δ = .ok δ1 ∧ b δ1 = .ok (.nx δ2) ∧ Inv (i + 1) δ2) →
    ∃ δ', forF g b ds δ = .ok (.nx δ') ∧ Inv (k + ds.length) δ'
  | [], k, δ, _, h, _ => ⟨δ, rfl, h⟩
  | d :: ds, k, δ, e, h, hs => by
    have e0 : items[k]? = some d := by
      have := List.getElem?_drop (xs := items) (i := k) (j := 0)
      rw [e] at this
      simpa using this.symm
    obtain ⟨δ1, δ2, e1, e2, h2⟩ := hs k d δ e0 h
    have e3 : items.drop (k + 1) = ds := by
      rw [← List.drop_drop, e]; rfl
    obtain ⟨δ', e4, h3⟩ := forF_ix Inv items ds (k + 1) δ2 e3 h2 hs
    refine ⟨δ', ?_, by rw [List.length_cons]; rw [show k + (ds.length + 1) = k + 1 + ds.length by omega]; exact h3⟩
    rw [forF, e1]
    show (b δ1).bind _ = _
    rw [e2]
    exact e4
theorem forF_ix0 {g : FG} {b : FS} {δ : DEnv} (Inv : Nat → DEnv → Prop) (items : List D) (h0 : Inv 0 δ) (hs : ∀ i d δ, items[i]? = some d → Inv i δ → ∃ δ1 δ2, g d δ = .ok δ1 ∧ b δ1 = .ok (.nx δ2) ∧ Inv (i + 1) δ2) :
    ∃ δ', forF g b items δ = .ok (.nx δ') ∧ Inv items.length δ' := by
  obtain ⟨δ', e, h⟩ := forF_ix Inv items items 0 δ rfl h0 hs
  exact ⟨δ', e, by rw [Nat.zero_add] at h; exact h⟩
theorem aug_S {δ : DEnv} {i : Nat} {f : FE} {a b : List Nat} (h0 : slotD δ i = some (.im (.str (tx a)))) (h : f δ = .ok (.im (.str (tx b)))) (hl : a.length + b.length ≤ 1000000) : sAugF i gAddS f δ = .ok (.nx (δ.set i (some (.im (.str (tx (a ++ b))))))) := aug_ok h0 h (addS_tx hl) rfl
theorem add_S {δ : DEnv} {fa fb : FE} {a b : List Nat} (h0 : fa δ = .ok (.im (.str (tx a)))) (h : fb δ = .ok (.im (.str (tx b)))) (hl : a.length + b.length ≤ 1000000) : fOp gAdd fa fb δ = .ok (.im (.str (tx (a ++ b)))) := op_ok h0 h (add_tx hl)
theorem lc2_ok {α β : Type} {e1 : α → D} {us : α → List β} {e2 h : β → D} {g1 g2 : FG} {i2 : FI} {f : FE} {vs2 : List Nat} {δ0 : DEnv} : ∀ (ts : List α) (acc : List D), acc.length + (ts.flatMap us).length ≤ 16777216 →
    (∀ a ∈ ts, ∃ δ1, g1 (e1 a) δ0 = .ok δ1 ∧ i2 δ1 = .ok ((us a).map e2) ∧ ∀ b ∈ us a, ∃ δ2 r, g2 (e2 b) (wipeD δ1 vs2) = .ok δ2 ∧ f δ2 = .ok r ∧ r.dat = some (h b)) → lc2F g1 i2 g2 tYes f vs2 δ0 (ts.map e1) acc = .ok (acc ++ (ts.flatMap us).map h)
  | [], acc, _, _ => by rw [List.map_nil, lc2F, List.flatMap_nil, List.map_nil, List.append_nil]
  | d :: ds, acc, hl, hs => by
    obtain ⟨δ1, e1', e2', e3⟩ := hs d (List.mem_cons_self ..)
    rw [List.flatMap_cons, List.length_append] at hl
    rw [List.map_cons, lc2F, e1']
    show (calm (i2 δ1)).bind _ = _
    rw [e2']
    show (lcF g2 tYes f (wipeD δ1 vs2) ((us d).map _) acc).bind _ = _
    rw [lc_ok (us d) acc (by omega) e3, bind_ok, lc2_ok ds _ (by rw [List.length_append, List.length_map]; omega) fun d hd => hs d (List.mem_cons_of_mem _ hd), List.flatMap_cons, List.map_append, List.append_assoc]
theorem flc2_ok {α β : Type} {e1 : α → D} {us : α → List β} {e2 h : β → D} {g1 g2 : FG} {i1 i2 : FI} {f : FE} {vs vs2 : List Nat} {δ : DEnv} {ts : List α} (hi : i1 δ = .ok (ts.map e1)) (hl : (ts.flatMap us).length ≤ 16777216)
    (hs : ∀ a ∈ ts, ∃ δ1, g1 (e1 a) (wipeD δ vs) = .ok δ1 ∧ i2 δ1 = .ok ((us a).map e2) ∧ ∀ b ∈ us a, ∃ δ2 r, g2 (e2 b) (wipeD δ1 vs2) = .ok δ2 ∧ f δ2 = .ok r ∧ r.dat = some (h b)) : fLc2 i1 g1 i2 g2 tYes f vs vs2 δ = .ok (.ol ((ts.flatMap us).map h)) := by
  unfold fLc2
  rw [hi, bind_ok, lc2_ok ts [] (by simpa using hl) hs]
  rfl
theorem putD_keys {κ : Type} [DecidableEq κ] {kvs : List (κ × D)} {k : κ} {v : D} {kv : κ × D} (h : kv ∈ putD kvs k v) : (∃ kw ∈ kvs, kw.1 = kv.1) ∨ kv.1 = k := by
  unfold putD at h
  split at h
  · obtain ⟨kw, h1, h2⟩ := List.mem_map.mp h
    refine .inl ⟨kw, h1, ?_⟩
    rw [← h2]
    split <;> rfl
  · rcases List.mem_append.mp h with z | z
    · exact .inl ⟨kv, z, rfl⟩
    · exact .inr (by rw [List.mem_singleton.mp z])
theorem putD_len {κ : Type} [DecidableEq κ] {kvs : List (κ × D)} {k : κ} {v : D} : (putD kvs k v).length ≤ kvs.length + 1 := by
  unfold putD
  split
  · rw [List.length_map]; omega
  · rw [List.length_append]; exact Nat.le_refl _
theorem putD_new {κ : Type} [DecidableEq κ] {kvs : List (κ × D)} {k : κ} {v : D} (h : valD kvs k = none) : putD kvs k v = kvs ++ [(k, v)] := by
  unfold putD
  rw [if_neg]
  intro z
  unfold valD at h
  rw [Option.map_eq_none_iff, List.find?_eq_none] at h
  obtain ⟨kv, h1, h2⟩ := List.any_eq_true.mp z
  exact h kv h1 h2
theorem wh_ok {t : FT} {b : FS} (Inv : Nat → DEnv → Prop) (Post : DEnv → Prop) (M : Nat) (hs : ∀ n δ, Inv n δ → (t δ = .ok false ∧ Post δ) ∨ (n < M ∧ t δ = .ok true ∧ ∃ δ', b δ = .ok (.nx δ') ∧ Inv (n + 1) δ')) :
    ∀ (f n : Nat) (δ : DEnv), Inv n δ → n ≤ M → M - n < f → ∃ δ', whF t b f δ = .ok (.nx δ') ∧ Post δ'
  | 0, n, δ, _, _, h => absurd h (Nat.not_lt_zero _)
  | f + 1, n, δ, hi, hn, hf => by
    rcases hs n δ hi with ⟨h1, h2⟩ | ⟨h1, h2, δ', h3, h4⟩
    · exact ⟨δ, by rw [whF, h1]; rfl, h2⟩
    · obtain ⟨δ2, e, p⟩ := wh_ok Inv Post M hs f (n + 1) δ' h4 (by omega) (by omega)
      refine ⟨δ2, ?_, p⟩
      rw [whF, h2]
      show (b δ).bind _ = _
      rw [h3]
      exact e
theorem tup1 {faa : FA} {δ : DEnv} {a : D} (h : faa δ = .ok [.im a]) : fTup faa δ = .ok (.im (.tuple [a])) := tup_ok h rfl (show 1 ≤ 16777216 by decide)
theorem tup2 {faa : FA} {δ : DEnv} {a b : D} (h : faa δ = .ok [.im a, .im b]) : fTup faa δ = .ok (.im (.tuple [a, b])) := tup_ok h rfl (show 2 ≤ 16777216 by decide)
theorem tup3 {faa : FA} {δ : DEnv} {a b c : D} (h : faa δ = .ok [.im a, .im b, .im c]) : fTup faa δ = .ok (.im (.tuple [a, b, c])) := tup_ok h rfl (show 3 ≤ 16777216 by decide)
/-! ### with draws -/
section
variable {δ δ' δ1 δ2 : DEnv} {s t a b : FS} {f fa fb fc fk fv : FE} {faa : FA} {ft fu : FT} {g : FG} {r r1 r2 r3 x y z : R} {v : SV} {d : D} {ds xs ys : List D} {rs : List R} {i n : Nat} {N : List Str} {F : FD} {P : R → Prop} {PF : Fl → Prop} {PX : Xn → Prop}
theorem sat_ok {α : Type} {t : Tr α} {a : α} {P : α → Prop} (h : t = .ok a) (p : P a) : t.sat P PX := by rw [h]; exact p
theorem sat_sq (h : (s δ).sat (fun o => ∃ δ', o = .nx δ' ∧ (t δ').sat PF PX) PX) : (sSq s t δ).sat PF PX := Tr.sat_bind.mpr (Tr.sat_of h fun o ho => by
  obtain ⟨δ', rfl, h'⟩ := ho
  exact h')
theorem sat_sqo (h : s δ = .ok (.nx δ')) (h' : (t δ').sat PF PX) : (sSq s t δ).sat PF PX := by rw [sq_nx h]; exact h'
theorem sat_set (h : (f δ).sat (fun r => ∃ v, r.sv = some v ∧ PF (.nx (δ.set i (some v)))) PX) : (sSetF i f δ).sat PF PX := Tr.sat_bind.mpr (Tr.sat_of h fun r hr => by
  obtain ⟨v, e, p⟩ := hr
  try dsimp only
  rw [e]
  exact p)
theorem sat_app (h0 : slotD δ i = some (.ol xs)) (hl : xs.length < 16777216) (h : (f δ).sat (fun r => ∃ d, r.dat = some d ∧ PF (.nx (δ.set i (some (.ol (xs ++ [d])))))) PX) : (sAppF i f δ).sat PF PX := by
  unfold sAppF
  rw [h0]
  refine Tr.sat_bind.mpr (Tr.sat_of h fun r hr => ?_)
  obtain ⟨d, e, p⟩ := hr
  try dsimp only
  rw [e]
  try dsimp only
  rw [decide_eq_true hl]
  exact p
theorem sat_ret (h : (f δ).sat (fun r => PF (.rt r)) PX) : (sRetF f δ).sat PF PX := Tr.sat_bind.mpr (Tr.sat_of h fun r hr => hr)
theorem sat_fn (h : (s (startD N rs)).sat (fun o => ∃ r, o = .rt r ∧ r.given = true ∧ P r) PX) : (fnF N s rs).sat P PX := Tr.sat_bind.mpr (Tr.sat_of h fun o ho => by
  obtain ⟨r, rfl, e, p⟩ := ho
  try dsimp only
  rw [e]
  exact p)
theorem calm_mk {α : Type} {t : Tr α} {P : α → Prop} (h : t.sat P fun _ => False) : (calm t).sat P PX := by
  induction t with
  | ok a => exact h
  | ex x => exact h.elim
  | no => exact h.elim
  | draw m k ih => exact ⟨h.1, h.2.1, fun r r0 r1 => ih r (h.2.2 r r0 r1)⟩
theorem sat_callC (h : (faa δ).sat (fun rs => (rs.all plainR && decide (rs.length = n)) = true ∧ (F rs).sat P fun _ => False) PX) : (fCallC n F faa δ).sat P PX := Tr.sat_bind.mpr (Tr.sat_of h fun rs hr => by
  obtain ⟨e, p⟩ := hr
  rw [e]
  exact calm_mk p)
theorem sat_op {gg : G2} (h : (fa δ).sat (fun x => (fb δ).sat (fun y => (gg x y).sat P PX) PX) PX) : (fOp gg fa fb δ).sat P PX := Tr.sat_bind.mpr (Tr.sat_of h fun x hx => Tr.sat_bind.mpr hx)
theorem sat_cons {PA : List R → Prop} (h : (f δ).sat (fun r => (faa δ).sat (fun rs => PA (r :: rs)) PX) PX) : (aCons f faa δ).sat PA PX := Tr.sat_bind.mpr (Tr.sat_of h fun r hr => Tr.sat_bind.mpr hr)
theorem sat_tup (h : (faa δ).sat (fun rs => ∃ ds, dats rs = some ds ∧ ds.length ≤ 16777216 ∧ P (.im (.tuple ds))) PX) : (fTup faa δ).sat P PX := Tr.sat_bind.mpr (Tr.sat_of h fun rs hr => by
  obtain ⟨ds, e, hl, p⟩ := hr
  try dsimp only
  rw [e]
  try dsimp only
  unfold szOk
  rw [decide_eq_true hl]
  exact p)
theorem sat_call {gg : G1} (h : (faa δ).sat (fun rs => (gg rs).sat P PX) PX) : (fCall gg faa δ).sat P PX := Tr.sat_bind.mpr h
theorem sat_mtk {okB : R → Bool} {gg : GM} (h : f δ = .ok r) (ho : okB r = true) (ha : (faa δ).sat (fun rs => (gg r rs).sat P PX) PX) : (fMtK okB gg f faa δ).sat P PX := by
  unfold fMtK
  rw [h, bind_ok, ho]
  exact Tr.sat_bind.mpr ha
theorem sat_take {fm : FE} {m : Nat} (hd : f δ = .ok .drw) (hm : fm δ = .ok (.im (.int (m : Nat)))) (h1 : 1 ≤ m) (h2 : m < 1073741824) (h : ∀ r : Nat, r < m → P (.im (.int (r : Nat)))) : (fCallC 2 F_take (aCons f (aCons fm aNil)) δ).sat P PX := by
  refine sat_callC (sat_ok (cons_ok hd (cons_ok hm rfl)) ⟨rfl, ?_⟩)
  refine ⟨by omega, by omega, fun r r0 r1 => ?_⟩
  have := h r.toNat (by omega)
  rw [Int.toNat_of_nonneg r0] at this
  exact this
theorem sat_forF (Inv : Nat → DEnv → Prop) (items : List D) (hs : ∀ i d δ, items[i]? = some d → Inv i δ → ∃ δ1, g d δ = .ok δ1 ∧ (b δ1).sat (fun o => ∃ δ2, o = .nx δ2 ∧ Inv (i + 1) δ2) PX) : ∀ (ds : List D) (k : Nat) (δ : DEnv), items.drop k = ds → Inv k δ → (forF g b ds δ).sat (fun o => ∃ δ', o = .nx δ' ∧ Inv (k + ds.length) δ') PX
  | [], k, δ, e, h => ⟨δ, rfl, h⟩
  | d :: ds, k, δ, e, h => by
    have e0 : items[k]? = some d := by
      have := List.getElem?_drop (xs := items) (i := k) (j := 0)
      rw [e] at this
      simpa using this.symm
    obtain ⟨δ1, e1, h2⟩ := hs k d δ e0 h
    have e3 : items.drop (k + 1) = ds := by
      rw [← List.drop_drop, e]; rfl
    rw [forF, e1]
    show ((b δ1).bind _).sat _ _
    refine Tr.sat_bind.mpr (Tr.sat_of h2 fun o ho => ?_)
    obtain ⟨δ2, rfl, h3⟩ := ho
    refine Tr.sat_of (sat_forF Inv items hs ds (k + 1) δ2 e3 h3) fun o ho => ?_
    obtain ⟨δ', e4, h4⟩ := ho
    exact ⟨δ', e4, by rw [List.length_cons, show k + (ds.length + 1) = k + 1 + ds.length by omega]; exact h4⟩
theorem sat_for {fi : FI} {items : List D} (Inv : Nat → DEnv → Prop) (hi : fi δ = .ok items) (h0 : Inv 0 δ) (hs : ∀ i d δ, items[i]? = some d → Inv i δ → ∃ δ1, g d δ = .ok δ1 ∧ (b δ1).sat (fun o => ∃ δ2, o = .nx δ2 ∧ Inv (i + 1) δ2) PX) (hp : ∀ δ', Inv items.length δ' → PF (.nx δ')) : (sForF fi g b δ).sat PF PX := by
  unfold sForF
  rw [hi]
  refine Tr.sat_of (sat_forF Inv items hs items 0 δ rfl h0) fun o ho => ?_
  obtain ⟨δ', rfl, h⟩ := ho
  rw [Nat.zero_add] at h
  exact hp δ' h
theorem sat_lcF {PD : D → Prop} {δ0 : DEnv} : ∀ (items acc : List D), acc.length + items.length ≤ 16777216 → (∀ d ∈ items, ∃ δ1, g d δ0 = .ok δ1 ∧ (f δ1).sat (fun r => ∃ d', r.dat = some d' ∧ PD d') fun _ => False) →
    (lcF g tYes f δ0 items acc).sat (fun out => ∃ new, out = acc ++ new ∧ new.length = items.length ∧ ∀ d ∈ new, PD d) PX
  | [], acc, _, _ => ⟨[], (List.append_nil _).symm, rfl, fun d hd => by cases hd⟩
  | d :: ds, acc, hl, hs => by
    rw [List.length_cons] at hl
    obtain ⟨δ1, e1, h2⟩ := hs d (List.mem_cons_self ..)
    rw [lcF, e1]
    show ((calm (f δ1)).bind _).sat _ _
    refine Tr.sat_bind.mpr (Tr.sat_of (calm_mk h2) fun r hr => ?_)
    obtain ⟨d', e3, p⟩ := hr
    try dsimp only
    rw [e3]
    try dsimp only
    rw [decide_eq_true (by omega)]
    refine Tr.sat_of (sat_lcF ds (acc ++ [d']) (by rw [List.length_append]; simp; omega) fun d hd => hs d (List.mem_cons_of_mem _ hd)) fun out ho => ?_
    obtain ⟨new, e4, e5, e6⟩ := ho
    refine ⟨d' :: new, by rw [e4, List.append_assoc]; rfl, by rw [List.length_cons, List.length_cons, e5], fun x hx => ?_⟩
    rcases List.mem_cons.mp hx with z | z
    · rw [z]; exact p
    · exact e6 x z
theorem sat_lc {PD : D → Prop} {fi : FI} {vs : List Nat} (hi : (fi δ).sat (fun items => items.length ≤ 16777216 ∧ (∀ d ∈ items, ∃ δ1, g d (wipeD δ vs) = .ok δ1 ∧ (f δ1).sat (fun r => ∃ d', r.dat = some d' ∧ PD d') fun _ => False) ∧ ∀ out : List D, out.length = items.length → (∀ d ∈ out, PD d) → P (.ol out)) PX) : (fLc fi g tYes f vs δ).sat P PX := by
  unfold fLc
  refine Tr.sat_bind.mpr (Tr.sat_of hi fun items hr => ?_)
  obtain ⟨hl, h, hp⟩ := hr
  refine Tr.sat_bind.mpr (Tr.sat_of (sat_lcF items [] (by simpa using hl) h) fun out ho => ?_)
  obtain ⟨new, e, e2, e3⟩ := ho
  rw [List.nil_append] at e
  subst e
  exact hp _ e2 e3
theorem rg_ok {m : Nat} (h : m ≤ 1000000) : rgOk ((m : Nat) : Int) = true := by
  unfold rgOk
  exact decide_eq_true (by omega)
/-- range over drawn bounds -/
theorem sat_R1 {PI : List D → Prop} (h : (faa δ).sat (fun rs => ∃ m : Nat, rs = [.im (.int (m : Nat))] ∧ m ≤ 1000000 ∧ PI ((List.range m).map fun i => .int (i : Nat))) PX) : (iR1 faa δ).sat PI PX := by
  unfold iR1
  refine Tr.sat_bind.mpr (Tr.sat_of h fun rs hr => ?_)
  refine hr.elim fun m hr2 => ?_
  have p := hr2.2.2
  have hm := hr2.2.1
  rw [hr2.1]
  show (gd (rgOk ((m : Nat) : Int)) (.ok (intsD 0 ((m : Nat) : Int).toNat))).sat PI PX
  have : rgOk ((m : Nat) : Int) = true := rg_ok hm
  rw [this]
  show PI (intsD 0 ((m : Nat) : Int).toNat)
  have e : intsD 0 ((m : Nat) : Int).toNat = (List.range m).map fun i => PyData.int (i : Nat) := by
    unfold intsD
    rw [Int.toNat_natCast]
    exact List.map_congr_left fun i _ => by rw [Int.zero_add]
  rw [e]
  exact p
theorem R1_ok {m : Nat} (h : faa δ = .ok [.im (.int (m : Nat))]) (hm : m ≤ 1000000) : iR1 faa δ = .ok ((List.range m).map fun i => .int (i : Nat)) := by
  unfold iR1
  rw [h, bind_ok]
  try dsimp only
  have : rgOk ((m : Nat) : Int) = true := rg_ok hm
  rw [this]
  have e : intsD 0 ((m : Nat) : Int).toNat = (List.range m).map fun i => PyData.int (i : Nat) := by
    unfold intsD
    rw [Int.toNat_natCast]
    exact List.map_congr_left fun i _ => by rw [Int.zero_add]
  exact congrArg Tr.ok e
end

end FW
set_option Elab.async false
set_option linter.all false
set_option maxRecDepth 100000
set_option maxHeartbeats 4000000
/-! dicts that are read, own or frozen -/
namespace FW
open PySem PySem.Spec L2 DW
def unK (m : List (D × D)) : List (Key × D) := m.filterMap fun kv => (DW.keyOf kv.1).map fun k => (k, kv.2)
def unT (m : List (D × D)) : List (List Key × D) := (dBody m).filterMap fun kv => match kv.1 with
  | .tuple ds => (DW.keysOf ds).map fun k => (k, kv.2)
  | _ => none
theorem unK_eq : ∀ (ks : List Key) (ds : List D), unK (kdK ks ds) = ks.zip ds
  | [], ds => rfl
  | k :: ks, [] => rfl
  | k :: ks, d :: ds => by
    have ih := unK_eq ks ds
    unfold unK kdK at ih ⊢
    rw [List.map_cons, List.zip_cons_cons, List.filterMap_cons, List.zip_cons_cons]
    simp only [keyOf_keyD, Option.map_some]
    rw [ih]
theorem unT_eq (ks : List (List Key)) (ds : List D) : unT (kdT ks ds) = ks.zip ds := by
  unfold unT
  rw [dBody_T]
  induction ks generalizing ds with
  | nil => rfl
  | cons k ks ih =>
    cases ds with
    | nil => rfl
    | cons d ds =>
      rw [List.map_cons, List.zip_cons_cons, List.filterMap_cons, List.zip_cons_cons]
      simp only [keysOf_map, Option.map_some]
      rw [ih]
theorem isDK_K (ks : List Key) (ds : List D) : isDK (kdK ks ds) = true := by
  unfold kdK
  cases ks with
  | nil => rfl
  | cons k r => cases ds with
    | nil => rfl
    | cons d t => cases k <;> rfl
def dKz : R → Option (List (Key × D))
  | .im (.dict m) => if isDK m = true then some (unK m) else none
  | r => r.dK
def dTz : R → Option (List (List Key × D))
  | .im (.dict m) => if isDK m = true then none else some (unT m)
  | r => r.dT
section
variable {K : PySem.W.Frag} {w : Option Dw} {G : Gd} {F F1 F2 F0 H H0 H1 H2 : Hp} {σ σ2 : L2.St} {δ δ2 : DEnv} {v y : V} {r r1 r2 : R}
theorem readK (le : Sub F1 H1) (q : RepR K w H F1 H1 v r) {kvs : List (Key × D)} (e : dKz r = some kvs) : ∃ p vs, v = .ref p ∧ Rd H1 p (.dK vs) ∧ RepKV K F1 vs kvs := by
  cases r with
  | im d =>
    cases d with
    | dict m =>
      cases q with
      | dicK h hl l =>
        have e : (if isDK (kdK _ _) = true then some (unK (kdK _ _)) else none) = some kvs := e
        rw [if_pos (isDK_K _ _), unK_eq] at e
        obtain rfl := Option.some.inj e
        exact ⟨_, _, rfl, .inr ⟨_, le _ _ h⟩, RepL.kv hl l⟩
      | dicT h hl l =>
        have e : (none : Option (List (Key × D))) = some kvs := e
        cases e
    | _ => cases e
  | oK ys => obtain ⟨p, vs, a, b, _, d⟩ := RepR.isK q (kvs := kvs) e; exact ⟨p, vs, a, .inl b, d⟩
  | bK ys => obtain ⟨p, vs, a, b, _, d⟩ := RepR.isK q (kvs := kvs) e; exact ⟨p, vs, a, .inl b, d⟩
  | _ => cases e
theorem readT (le : Sub F1 H1) (q : RepR K w H F1 H1 v r) {kvs : List (List Key × D)} (e : dTz r = some kvs) : ∃ p vs, v = .ref p ∧ Rd H1 p (.dT vs) ∧ RepKV K F1 vs kvs := by
  cases r with
  | im d =>
    cases d with
    | dict m =>
      cases q with
      | dicK h hl l =>
        have e : (if isDK (kdK _ _) = true then none else some (unT (kdK _ _))) = some kvs := e
        rw [if_pos (isDK_K _ _)] at e; cases e
      | dicT h hl l =>
        rename_i a o ks vs ds
        have e : some (unT (kdT ks ds)) = some kvs := e
        rw [unT_eq] at e
        obtain rfl := Option.some.inj e
        exact ⟨_, _, rfl, .inr ⟨_, le _ _ h⟩, RepL.kv hl l⟩
    | _ => cases e
  | oT ys => obtain ⟨p, vs, a, b, _, d⟩ := RepR.isT q (kvs := kvs) e; exact ⟨p, vs, a, .inl b, d⟩
  | bT ys => obtain ⟨p, vs, a, b, _, d⟩ := RepR.isT q (kvs := kvs) e; exact ⟨p, vs, a, .inl b, d⟩
  | _ => cases e
/-- what a dict holds at a key (none: nothing is told) -/
def getZ (x y : R) : Option (Option D) := match dKz x, dTz x, y with
  | some kvs, _, .im d => (DW.keyOf d).map (valD kvs)
  | none, some kvs, .im (.tuple ds) => (DW.keysOf ds).map (valD kvs)
  | _, _, _ => none
theorem getZ_ok {x : V} {o : Option D} (le : Sub F H) (g : getZ r1 r2 = some o) (q1 : RepR K w H0 F H x r1) (q2 : RepR K w H0 F H y r2) :
    ∃ p ov, x = .ref p ∧ DGet H p y ov ∧ ((o = none ∧ ov = none) ∨ ∃ d v, o = some d ∧ ov = some v ∧ RepD K F v d) := by
  unfold getZ at g
  split at g
  · rename_i kvs d e1
    cases ek : DW.keyOf d with
    | none => rw [ek] at g; cases g
    | some k =>
      rw [ek] at g
      obtain rfl := Option.some.inj g
      obtain ⟨p, vs, rfl, h, l⟩ := readK le q1 e1
      obtain rfl := RepD.key q2 ek
      exact ⟨p, _, rfl, .inl ⟨vs, k, h, rfl, rfl⟩, l.val⟩
  · rename_i kvs ds e0 e1
    cases ek : DW.keysOf ds with
    | none => rw [ek] at g; cases g
    | some ks =>
      rw [ek] at g
      obtain rfl := Option.some.inj g
      obtain ⟨p, vs, rfl, h, l⟩ := readT le q1 e1
      obtain ⟨b, us, rfl, hb, lb⟩ := RepR.tuple (K := K) (w := w) (H := H0) le q2 (xs := ds) rfl
      obtain rfl := RepL.keys lb ek
      exact ⟨p, _, rfl, .inr ⟨vs, ks, b, h, rfl, le _ _ hb, rfl⟩, l.val⟩
  · cases g
def gDgz : G2 := fun x y => match getZ x y with
  | some (some d) => .ok (.im d)
  | _ => .no
def gDinz (neg : Bool) : G2 := fun x y => match getZ y x with
  | some o => .ok (.im (.bool (if neg then !o.isSome else o.isSome)))
  | _ => .no
end
section
variable {K : PySem.W.Frag} {w : Option Dw} {G : Gd} {F F1 F2 F0 H H1 H2 : Hp} {σ σ2 : L2.St} {δ δ2 : DEnv}
variable {X : Cx} {W : WX} {st : Bool} {tg iter e a b c o elt kx vx : Expr} {es rest : List Expr} {fe fa fb fc fo fk fv : FE} {ft fu : FT} {faa : FA} {pos p np p2 apos cpos : Pos} {s : Stmt}
theorem e_dgz (hu : X.A.units + 1 < cLine) (ha : E_ X G W a fa) (hb : E_ X G W b fb) (hs : NoSl b := by exact fun _ _ => rfl) : E_ X G W (.Subscript a b pos) (fOp gDgz fa fb) :=
  PE.imp (pe_dget hu ha hb hs) fun σ H Q ⟨F, δ, P, PX, S, q, k, xk⟩ => by
    refine ⟨F, δ, _, PX, S, Tr.sat_bind.mp q, fun x F1 H1 r1 x1 q1 p1 => ?_, xk⟩
    refine dT.next (we := wE X.K fb) S x1 xk (Tr.sat_bind.mp p1) fun y F2 H2 r2 x2 q2 p2 => ?_
    unfold gDgz at p2
    split at p2
    · rename_i d ez
      obtain ⟨p, ov, e, g', z⟩ := getZ_ok x2.le ez (q1.to x2) (q2.back x1)
      rcases z with ⟨z, _⟩ | ⟨d', v, z, rfl, rd⟩
      · cases z
      · cases z
        exact ⟨p, v, e, g', k v F2 H2 (.im d) (x1.trans x2) rd p2⟩
    · exact p2.elim
theorem dinz_of {neg : Bool} {σ : L2.St} {H : Hp} {Q : VK} (h : dT K G W (wE K (fOp (gDinz neg) fa fb)) σ H Q) : dT K G W (wE K fa) σ H fun y H1 => dT K G W (wE K fb) σ H1 fun x H2 => ∃ a o, x = .ref a ∧ DGet H2 a y o ∧ Q (.bl (if neg then !o.isSome else o.isSome)) H2 := by
  obtain ⟨F, δ, P, PX, S, p, q, xk⟩ := h
  refine ⟨F, δ, _, PX, S, Tr.sat_bind.mp p, fun x F1 H1 r1 x1 q1 p1 => ?_, xk⟩
  refine dT.next (we := wE K fb) S x1 xk (Tr.sat_bind.mp p1) fun y F2 H2 r2 x2 q2 p2 => ?_
  unfold gDinz at p2
  split at p2
  · rename_i o ez
    obtain ⟨p, ov, e, g', z⟩ := getZ_ok x2.le ez (q2.back x1) (q1.to x2)
    refine ⟨p, ov, e, g', ?_⟩
    have eo : ov.isSome = o.isSome := by
      rcases z with ⟨rfl, rfl⟩ | ⟨d', v, rfl, rfl, _⟩ <;> rfl
    rw [eo]
    exact q _ F2 H2 (.im _) (x1.trans x2) (.bl _) p2
  · exact p2.elim
theorem e_dinz (hu : X.A.units + 1 < cLine) (ha : E_ X G W a fa) (hb : E_ X G W b fb) (hm : behindInMarks .In b = false := by rfl) : E_ X G W (.Compare a [.In] [b] pos) (fOp (gDinz false) fa fb) :=
  PE.imp (pe_cmp (pc_din hu ha hb) hm) fun σ H Q h => dinz_of h
theorem e_dnotinz (hu : X.A.units + 1 < cLine) (ha : E_ X G W a fa) (hb : E_ X G W b fb) (hm : behindInMarks .NotIn b = false := by rfl) : E_ X G W (.Compare a [.NotIn] [b] pos) (fOp (gDinz true) fa fb) :=
  PE.imp (pe_cmp (pc_dnotin hu ha hb) hm) fun σ H Q h => dinz_of h
theorem t_dinz (hu : X.A.units + 1 < cLine) (ha : E_ X G W a fa) (hb : E_ X G W b fb) (hm : behindInMarks .In b = false := by rfl) : T_ X G W (.Compare a [.In] [b] pos) (FW.tB (fOp (gDinz false) fa fb)) :=
  PT.imp (pt_cmp (pc_din hu ha hb) hm) fun σ H Q ⟨F, δ, P, PX, S, q, k, xk⟩ => dinz_of (tB_of ⟨F, δ, P, PX, S, Tr.sat_of (Tr.sat_bind.mp q) fun r qr => by
    split at qr
    · exact ⟨_, rfl, qr⟩
    · exact qr.elim, k, xk⟩)
theorem t_dnotinz (hu : X.A.units + 1 < cLine) (ha : E_ X G W a fa) (hb : E_ X G W b fb) (hm : behindInMarks .NotIn b = false := by rfl) : T_ X G W (.Compare a [.NotIn] [b] pos) (FW.tB (fOp (gDinz true) fa fb)) :=
  PT.imp (pt_cmp (pc_dnotin hu ha hb) hm) fun σ H Q ⟨F, δ, P, PX, S, q, k, xk⟩ => dinz_of (tB_of ⟨F, δ, P, PX, S, Tr.sat_of (Tr.sat_bind.mp q) fun r qr => by
    split at qr
    · exact ⟨_, rfl, qr⟩
    · exact qr.elim, k, xk⟩)
/-- d.get(k), d.get(k, x) -/
def isDz (x : R) : Bool := (dKz x).isSome || (dTz x).isSome
theorem isDz_ok {v : V} {r : R} {H0 F1 H1 : Hp} (le : Sub F1 H1) (q : RepR K w H0 F1 H1 v r) (e : isDz r = true) : ∃ p, v = .ref p ∧ IsD H1 p := by
  unfold isDz at e
  rw [Bool.or_eq_true] at e
  rcases e with e | e
  · obtain ⟨kvs, e⟩ := Option.isSome_iff_exists.mp e
    obtain ⟨p, vs, a, b, _⟩ := readK le q e
    exact ⟨p, a, .inl ⟨vs, b⟩⟩
  · obtain ⟨kvs, e⟩ := Option.isSome_iff_exists.mp e
    obtain ⟨p, vs, a, b, _⟩ := readT le q e
    exact ⟨p, a, .inr ⟨vs, b⟩⟩
def gGet1 (x y : R) : Tr R := match getZ x y with
  | some (some d) => .ok (.im d)
  | some none => .ok (.im .none)
  | none => .no
def fGet1 (fa fb : FE) : FE := fun δ => (fa δ).bind fun x => gd (isDz x) ((fb δ).bind fun y => gGet1 x y)
theorem e_get1 (hu : X.A.units + 1 < cLine) (ha : E_ X G W a fa) (hb : E_ X G W b fb) (hbase : attributeBase a "get" X.env (eval a X.env) = eval a X.env := by rfl)
    (few : ((backTo cpos (starEach [b] X.env)).all (fun x => !x.1) && (backToKw cpos (keywordEach [] X.env)).all (fun x => x.1.isSome) && decide (([b] : List Expr).length + ([] : List Keyword).length + (if ([] : List Keyword).isEmpty then 0 else 1) < 30)) = true := by rfl) (hline : (apos.endLine == cpos.line) = true := by rfl) (trees : backTo cpos (starEach [b] X.env) = [(false, eval b X.env)] := by rfl) :
    E_ X G W (.Call (.Attribute a "get" apos) [b] [] cpos) (fGet1 fa fb) :=
  PE.imp (pe_dget1 hu ha hb ⟨hbase, few, hline, trees⟩) fun σ H Q ⟨F, δ, P, PX, S, q, k, xk⟩ => by
    refine ⟨F, δ, _, PX, S, Tr.sat_bind.mp q, fun x F1 H1 r1 x1 q1 p1 => ?_, xk⟩
    obtain ⟨h1, p1⟩ := gd_sat p1
    obtain ⟨p, ex, hd⟩ := isDz_ok x1.le q1 h1
    refine ⟨p, ex, hd, ?_⟩
    refine dT.next (we := wE X.K fb) S x1 xk (Tr.sat_bind.mp p1) fun y F2 H2 r2 x2 q2 p2 => ?_
    unfold gGet1 at p2
    split at p2
    · rename_i d ez
      obtain ⟨p', ov, e, g', z⟩ := getZ_ok x2.le ez (q1.to x2) (q2.back x1)
      rw [ex] at e
      cases e
      rcases z with ⟨z, _⟩ | ⟨d', v, z, rfl, rd⟩
      · cases z
      · cases z
        exact ⟨_, g', k v F2 H2 (.im d) (x1.trans x2) rd p2⟩
    · rename_i ez
      obtain ⟨p', ov, e, g', z⟩ := getZ_ok x2.le ez (q1.to x2) (q2.back x1)
      rw [ex] at e
      cases e
      rcases z with ⟨_, rfl⟩ | ⟨d', v, z, _, _⟩
      · exact ⟨_, g', k .non F2 H2 (.im .none) (x1.trans x2) .non p2⟩
      · cases z
    · exact p2.elim
/-- {k: v}, k an int or a text -/
def fDispK (fk fv : FE) : FE := fun δ => (fk δ).bind fun r => match r with
  | .im kd => match DW.keyOf kd with
    | some k => (fv δ).bind fun r2 => match r2.dat with
      | some d => .ok (.oK [(k, d)])
      | none => .no
    | none => .no
  | _ => .no
theorem e_dispK (hu : X.A.units + 1 < cLine) (hk : E_ X G W kx fk) (hv : E_ X G W vx fv) : E_ X G W (.Dict [some kx] [vx] pos) (fDispK fk fv) :=
  PE.imp (pe_disp (pps_cons hk hv pps_nil) rfl rfl (fun z => nomatch z) (show (1 : Nat) ≤ 15 by decide)) fun σ H Q ⟨F, δ, P, PX, S, q, k, xk⟩ p hp => by
    obtain ⟨x0, n, nd⟩ := new_dict (u := .dK []) S.ext.stay hp
    refine dT.next (we := wE X.K fk) S x0 xk (Tr.sat_bind.mp q) fun x F1 H1 r x1 q1 p1 => ?_
    split at p1
    · rename_i kd
      split at p1
      · rename_i kk ek
        refine dT.next (we := wE X.K fv) S (x0.trans x1) xk (Tr.sat_bind.mp p1) fun y F2 H2 r2 x2 q2 p2 => ?_
        split at p2
        · rename_i d ed
          obtain ⟨F3, x3, _, rd⟩ := q2.freeze x2 ed
          have x13 := x1.trans x3
          obtain ⟨h', n'⟩ := x13.keepN (p := p) upd_same n nd
          obtain rfl := RepD.key q1 ek
          refine ⟨h', [(kk, y)], rfl, (show (1 : Nat) ≤ 15 by decide), ?_⟩
          have xw : Ext G.w F H F3 (upd H2 p (.dK [(kk, y)])) := (x0.trans x13).write hp h' n' nd
          exact k _ F3 _ (.oK [(kk, d)]) xw ⟨p, _, rfl, hp, upd_same, n', nd, .cons rd .nil⟩ p2
        · exact p2.elim
      · exact p1.elim
    · exact p1.elim
/-- a list times an int -/
def kMulL : KO := fun r1 r2 P => ∃ xs n, r1.own = some xs ∧ r2 = .im (.int n) ∧ 0 ≤ n ∧ n ≤ 1000 ∧ xs.length ≤ 1000 ∧ P (.ol (List.replicate n.toNat xs).flatten)
theorem opd_mulL : OpD K rRep kMulL := by
  rintro w H0 F H x y r1 r2 P Q x0 q1 q2 ⟨xs, n, e1, rfl, h0, h1, h2, p⟩ k
  obtain ⟨a, vs, rfl, ha, la⟩ := q1.owns x0.le e1
  cases q2
  refine ⟨a, n, vs, rfl, rfl, ha, by omega, by omega, ?_, fun q hq => ?_⟩
  · rw [RepL.length la, sizeLine_eq]
    have : xs.length * n.toNat ≤ 1000 * 1000 := Nat.mul_le_mul h2 (by omega)
    omega
  · obtain ⟨x1, r⟩ := new_list (K := K) x0 hq (RepL.rep la n.toNat)
    exact k _ _ _ _ x1 r p
def gMulL : G2 := fun x y => match x.own, y with
  | some xs, .im (.int n) => gd (decide (0 ≤ n) && decide (n ≤ 1000) && decide (xs.length ≤ 1000)) (.ok (.ol (List.replicate n.toNat xs).flatten))
  | _, _ => .no
theorem kg_mulL : KG kMulL gMulL := by
  intro a b P PX h
  unfold gMulL at h
  split at h
  · rename_i xs n e
    obtain ⟨h1, h2⟩ := gd_sat h
    simp only [Bool.and_eq_true, decide_eq_true_eq] at h1
    exact ⟨xs, n, e, rfl, h1.1.1, h1.1.2, h1.2, h2⟩
  · exact h.elim
theorem e_mulL (ha : E_ X G W a fa) (hb : E_ X G W b fb) : E_ X G W (.BinOp a .Mult b pos) (fOp gMulL fa fb) := e_op (de_op op_rep opd_mulL ha hb) kg_mulL
/-- a, b = x, y of names, told together -/
def sParF (i j : Nat) (fa : FA) : FS := fun δ => (fa δ).bind fun rs => match rs with
  | [.im d1, .im d2] => .ok (.nx ((δ.set i (some (.im d1))).set j (some (.im d2))))
  | _ => .no
theorem s_par {i j : Nat} {x y : Str} {px py pt : Pos} {kt : Nat} {k2 : Nat} {pt2 : Pos} (hc : X.calm = true) (hN : X.N.Nodup) (hi : X.N[i]? = some x) (hj : X.N[j]? = some y) (hij : i ≠ j)
    (hx : X.env.scope.names.lookup x = some .local) (hy : X.env.scope.names.lookup y = some .local) (ha : A_ X G W [a, b] faa)
    (hw : swappedStores [.Tuple [.Name x px, .Name y py] kt pt] (.Tuple [a, b] k2 pt2) X.env = pure (some [x, y]) := by rfl)
    (hs : swapsWithSole [.Tuple [.Name x px, .Name y py] kt pt] (.Tuple [a, b] k2 pt2) pos.line X.env = pure false := by rfl) :
    S_ X G W (.Assign [.Tuple [.Name x px, .Name y py] kt pt] (.Tuple [a, b] k2 pt2) pos) (sParF i j faa) :=
  PS.imp (ps_par hc hN hi hj hij hx hy ha hw hs) fun D σ H ⟨F, δ, E, S, q, k⟩ => by
    refine ⟨F, δ, _, _, S, Tr.sat_bind.mp q, fun vs F1 H1 rs x1 q1 p1 => ?_, k.xok S⟩
    split at p1
    · cases q1 with
      | cons r1 t =>
        cases t with
        | cons r2 t =>
          cases t
          exact ⟨_, _, rfl, k.nx _ F1 H1 _ x1.fs (((S.to x1).store (s := .im _) r1 fun z => nomatch z).store (s := .im _) r2 fun z => nomatch z) p1⟩
    · exact p1.elim
end
end FW
set_option Elab.async false
set_option linter.all false
set_option maxRecDepth 100000
set_option maxHeartbeats 4000000
/-! sorted(list of data) -/
namespace FW
open PySem PySem.Spec L2 DW
open PySem.W (alike dataLt dataLe AllAlike Sortable EachIs sorted_data)
def rSortDt (K : PySem.W.Frag) : List V → Hp → VK → Prop := fun vs H Q => ∃ (a : Addr) (us : List V) (ds : List D), vs = [V.ref a] ∧ SqL K H a us ∧ DpAll K H us ds ∧ us.length = ds.length ∧ AllAlike ds ∧ Sortable ds ∧ (∀ d ∈ ds, d.depth ≤ 60) ∧
  ∀ p, H p = none → Q (.ref p) (upd H p (.lst (((us.zip ds).mergeSort (dataLe false fun b => b.2)).map (·.1))))
section
variable {X : Cx}
theorem eachZ {us : List V} {vs : List Value} {ds : List D} (r : Vals us vs) : us.length = ds.length → EachIs (fun v (b : V × D) => RelV b.1 v) vs (us.zip ds) := by
  intro hl
  unfold Vals at r
  induction r generalizing ds with
  | nil => cases ds with
    | nil => exact .nil
    | cons d t => cases hl
  | cons h t ih => cases ds with
    | nil => cases hl
    | cons d ds => exact .cons h (ih (by simpa using hl))
theorem eachR {h : Heap} {vs : List Value} {ds : List D} {as : List Addr} : ∀ {us : List V}, us.length = ds.length → ReadsAll h vs ds as → EachIs (fun v (b : V × D) => ∃ as, Reads h v b.2 as) vs (us.zip ds) := by
  intro us hl r
  have e := PySem.W.readsAll_each (enc := id) (bs := ds) (h := h) (vs := vs) (as := as) (by rw [List.map_id]; exact r)
  clear r
  induction e generalizing us with
  | nil => cases us with
    | nil => exact .nil
    | cons u t => cases hl
  | cons h1 t ih => cases us with
    | nil => cases hl
    | cons u us => exact .cons h1 (ih (by simpa using hl))
theorem valsE {out : List Value} {bs : List (V × D)} (e : EachIs (fun v (b : V × D) => RelV b.1 v) out bs) : Vals (bs.map (·.1)) out := by
  unfold Vals
  induction e with
  | nil => exact .nil
  | cons h t ih => exact .cons h ih
theorem zip_snd {us : List V} {ds : List D} (hl : us.length = ds.length) : (us.zip ds).map (fun b => b.2) = ds := by
  rw [List.map_snd_zip (by omega)]
theorem cr_sortDt (hu : X.A.units + 64 < cLine) : CallR X (.builtin "sorted") (rSortDt X.K) := by
  intro pins s σ H vs us Q I r h
  obtain ⟨a, xs, ds, rfl, hs, hd, hl, hal, hk, hdep, q⟩ := h
  obtain ⟨its, rv, pl, hz⟩ := I.list hs
  rw [Vals.ref1 r]
  obtain ⟨as, ra⟩ := Dp.readsAll I ds xs its hd rv
  have ez := zip_snd hl
  refine sorted_data (enc := fun b : V × D => b.2) (bs := xs.zip ds) pl.isList (eachZ rv hl) (eachR hl ra) (by rw [ez]; exact hal) (by rw [ez]; exact hk) (by rw [List.length_zip]; omega) (fun b hb => ?_) fun out h1 h2 => ?_
  · have : b.2 ∈ ds := by rw [← ez]; exact List.mem_map.mpr ⟨b, hb, rfl⟩
    have := hdep _ this
    omega
  · obtain ⟨ep, he'⟩ := PyProof.Rows.sortedAll_at s.heap its out.toArray
    have hv := valsE h2
    have hlen : (((xs.zip ds).mergeSort (dataLe false fun b => b.2)).map (·.1)).length ≤ sizeLine := by
      rw [List.length_map, List.length_mergeSort, List.length_zip]
      omega
    exact ⟨.ref _, upd H (s.heap.objs.size + 1) (.lst (((xs.zip ds).mergeSort (dataLe false fun b => b.2)).map (·.1))), I.laid (t' := s.toks) (fun _ _ => PyProof.Rows.sortedAll_old) (Nat.le_succ _) ⟨hlen, out, ep, hv, he'⟩, rfl, q _ (I.hok.fresh (Nat.le_succ _))⟩
end
/-- .. as data -/
def alikeB (ds : List D) : Bool := ds.all fun d => ds.all fun e => alike d e
def isTup1 : D → Bool
  | .tuple (_ :: _) => true
  | _ => false
def isPlain1 : D → Bool
  | .none => false
  | .tuple _ => false
  | _ => true
def sortB (ds : List D) : Bool := (ds.all isTup1 || ds.all isPlain1) && alikeB ds && PyData.canLayAll0 ds && ds.all fun d => decide (d.depth ≤ 60)
def kSortD : KC := fun rs P => ∃ r ds, rs = [r] ∧ r.lst = some ds ∧ sortB ds = true ∧ P (.ol (ds.mergeSort (dataLe false fun d => d)))
section
variable {K : PySem.W.Frag} {F : Hp}
theorem repZ : ∀ {us : List V} {ds : List D}, RepL K F us ds → ∀ b ∈ us.zip ds, RepD K F b.1 b.2
  | _, _, .nil, b, hb => by cases hb
  | _, _, .cons r t, b, hb => by
    rw [List.zip_cons_cons] at hb
    rcases List.mem_cons.mp hb with rfl | hb
    · exact r
    · exact repZ t b hb
theorem repBs : ∀ {bs : List (V × D)}, (∀ b ∈ bs, RepD K F b.1 b.2) → RepL K F (bs.map (·.1)) (bs.map (·.2))
  | [], _ => .nil
  | b :: r, h => .cons (h b (List.mem_cons_self ..)) (repBs fun b hb => h b (List.mem_cons_of_mem _ hb))
theorem callD_sortD : CallD K (rSortDt K) kSortD := by
  rintro w H0 F H vs rs P Q x0 q ⟨r, ds, rfl, e, hb, p⟩ k
  cases q with
  | cons a t =>
    cases t
    obtain ⟨pp, us, rfl, h, l⟩ := a.list x0.le e
    unfold sortB at hb
    simp only [Bool.and_eq_true, Bool.or_eq_true] at hb
    obtain ⟨⟨⟨h1, h2⟩, h3⟩, h4⟩ := hb
    have hal : AllAlike ds := fun d hd d' hd' => List.all_eq_true.mp (List.all_eq_true.mp h2 d hd) d' hd'
    have hk : Sortable ds := h1.elim (fun z => .inl fun d hd => by
      have := List.all_eq_true.mp z d hd
      cases d with
      | tuple xs => cases xs with
        | nil => cases this
        | cons x r => exact ⟨x, r, rfl⟩
      | _ => cases this) fun z => .inr fun d hd => by
      have := List.all_eq_true.mp z d hd
      cases d with
      | none => cases this
      | tuple xs => cases this
      | _ => exact ⟨(fun z => nomatch z), fun xs z => nomatch z⟩
    refine ⟨pp, us, ds, rfl, h, (RepL.mono x0.le l).dp h3, RepL.length l, hal, hk, fun d hd => of_decide_eq_true (List.all_eq_true.mp h4 d hd), fun q hq => ?_⟩
    have em : ((us.zip ds).mergeSort (dataLe false fun b => b.2)).map (·.2) = ds.mergeSort (dataLe false fun d => d) := by
      have := List.map_mergeSort (r := dataLe false fun b : V × D => b.2) (s := dataLe false fun d : D => d) (f := fun b : V × D => b.2) (l := us.zip ds) (fun _ _ _ _ => rfl)
      rw [zip_snd (RepL.length l)] at this
      exact this
    have rep : RepL K F (((us.zip ds).mergeSort (dataLe false fun b => b.2)).map (·.1)) (ds.mergeSort (dataLe false fun d => d)) := by
      rw [← em]
      exact repBs fun b hb => repZ l b ((List.mergeSort_perm _ _).subset hb)
    obtain ⟨x1, r⟩ := new_list (K := K) x0 hq rep
    exact k _ _ _ _ x1 r p
def gSortD : G1 := fun rs => match rs with
  | [r] => match r.lst with
    | some ds => gd (sortB ds) (.ok (.ol (ds.mergeSort (dataLe false fun d => d))))
    | none => .no
  | _ => .no
theorem kcg_sortD : KCG kSortD gSortD := by
  intro rs P PX h
  unfold gSortD at h
  split at h
  · split at h
    · rename_i ds e
      obtain ⟨h1, h2⟩ := gd_sat h
      exact ⟨_, ds, rfl, e, h1, h2⟩
    · exact h.elim
  · exact h.elim
end
end FW
set_option Elab.async false
set_option linter.all false
set_option maxRecDepth 100000
set_option maxHeartbeats 4000000
namespace FW
open PySem PySem.Spec L2 DW
/-! ### sorted(a dict with int keys) -/
def sortI (ks : List Int) : List Int := ks.mergeSort fun a b => decide (a ≤ b)
theorem sortI_eq {ys ks : List Int} (hp : ys.Perm ks) (hs : ys.Pairwise (· ≤ ·)) : ys = sortI ks := by
  refine List.Perm.eq_of_pairwise (le := (· ≤ ·)) (fun a b _ _ h1 h2 => Int.le_antisymm h1 h2) hs ?_ (hp.trans (List.mergeSort_perm ks _).symm)
  have := List.pairwise_mergeSort (le := fun a b : Int => decide (a ≤ b)) (fun a b c h1 h2 => by
    have h1 := of_decide_eq_true h1
    have h2 := of_decide_eq_true h2
    exact decide_eq_true (Int.le_trans h1 h2)) (fun a b => by
    rw [Bool.or_eq_true]
    exact (Int.le_total a b).imp decide_eq_true decide_eq_true) ks
  exact this.imp fun h => of_decide_eq_true h
def intKeys : List (Key × D) → Option (List Int)
  | [] => some []
  | (.inl i, _) :: r => (intKeys r).map (i :: ·)
  | _ => none
theorem intKeys_eq : ∀ {kvs : List (Key × D)} {ks : List Int}, intKeys kvs = some ks → kvs.map (·.1) = ks.map Sum.inl
  | [], _, h => by cases h; rfl
  | (.inl i, d) :: r, ks, h => by
    unfold intKeys at h
    cases e : intKeys r with
    | none => rw [e] at h; cases h
    | some m =>
      rw [e] at h
      cases h
      rw [List.map_cons, List.map_cons, intKeys_eq e]
  | (.inr s, d) :: r, ks, h => by cases h
def kSortDI : KC := fun rs P => ∃ r kvs ks, rs = [r] ∧ dKz r = some kvs ∧ intKeys kvs = some ks ∧ ks.length < 64 ∧ P (.ol ((sortI ks).map .int))
section
variable {K : PySem.W.Frag} {F : Hp}
theorem intsV : ∀ (ns : List Int), RepL K F (ns.map V.int) (ns.map PyData.int)
  | [] => .nil
  | n :: r => .cons (.int n) (intsV r)
theorem callD_sortDI : CallD K (fun xs H Q => ∃ (a : Addr) (kvs : List (Key × V)) (ks : List Int), xs = [.ref a] ∧ Rd H a (.dK kvs) ∧ kvs.map (·.1) = ks.map Sum.inl ∧ ks.length < 64 ∧
    ∀ (ys : List Int) (p : Addr), ys.Perm ks → ys.Pairwise (· ≤ ·) → H p = none → Q (.ref p) (upd H p (.lst (ys.map V.int)))) kSortDI := by
  rintro w H0 F H vs rs P Q x0 q ⟨r, kvs, ks, rfl, e, ei, hl, p⟩ k
  cases q with
  | cons a t =>
    cases t
    obtain ⟨pp, us, rfl, h, l⟩ := readK x0.le a e
    refine ⟨pp, us, ks, rfl, h, by rw [RepKV.keys l]; exact intKeys_eq ei, hl, fun ys q hp hs hq => ?_⟩
    obtain rfl := sortI_eq hp hs
    obtain ⟨x1, r⟩ := new_list (K := K) x0 hq (intsV (sortI ks))
    exact k _ _ _ _ x1 r p
def gSortDI : G1 := fun rs => match rs with
  | [r] => match dKz r with
    | some kvs => match intKeys kvs with
      | some ks => gd (decide (ks.length < 64)) (.ok (.ol ((sortI ks).map .int)))
      | none => .no
    | none => .no
  | _ => .no
theorem kcg_sortDI : KCG kSortDI gSortDI := by
  intro rs P PX h
  unfold gSortDI at h
  split at h
  · split at h
    · rename_i kvs e
      split at h
      · rename_i ks ei
        obtain ⟨h1, h2⟩ := gd_sat h
        exact ⟨_, kvs, ks, rfl, e, ei, of_decide_eq_true h1, h2⟩
      · exact h.elim
    · exact h.elim
  · exact h.elim
end
end FW
namespace DW
open PySem PySem.Spec L2 PyProof.Rows
/-! ### items() of a dict with tuple keys -/
section
variable {X : Cx} {pins : List (Addr × Obj)} {σ : L2.St} {H : Hp} {s : Shared} {d : Addr} {o : Obj}
theorem frzT2 {kvs : List (List Key × V)} (I : Inv X pins σ H s) (h : H d = some (.frz o (.dT kvs))) :
    (d == sysModules) = false ∧ s.heap.get? d = some o ∧ ∃ (es : Array DictEntry) (ep : Nat), o.data = .dict es ep ∧ s.heap.DictRaw d es ep ∧ es.size = kvs.length ∧
      ∀ (i : Nat) (k : List Key) (v : V), kvs[i]? = some (k, v) → ∃ (hi : i < es.size) (q : Addr), es[i].key = .ref q ∧ H q = some (.tup (k.map kV)) ∧ RelV v es[i].val := by
  obtain ⟨hd, z, hs, xs, pr, o', es, ep, ho, hx, hdt, he, _⟩ := I.hok d _ h
  rw [hd] at ho
  cases ho
  have hz : es.size = kvs.length := by
    have l1 : es.size = xs.length := by rw [← Array.length_toList, he, List.length_map]
    have l2 : kvs.length = xs.length := Paired.length pr
    omega
  refine ⟨hs, hd, es, ep, hdt, ⟨o, hd, hx, hdt⟩, hz, fun i k v e => ?_⟩
  obtain ⟨b, hb, e1, e2, e3⟩ := L2.paired_get pr e
  have hi : i < es.size := by rw [hz]; exact (List.getElem?_eq_some_iff.mp e).1
  have q : es.toList[i]? = some (entryOfKey (tupleKind (mixKind X.prog X.w)) b) := by rw [he, List.getElem?_map, hb]; rfl
  have q2 : es[i] = entryOfKey (tupleKind (mixKind X.prog X.w)) b := by
    have := List.getElem?_eq_some_iff.mp q
    obtain ⟨_, e9⟩ := this
    simpa using e9
  exact ⟨hi, b.2.1, by rw [q2]; rfl, e2, by rw [q2]; exact e3⟩
end
def ItiT (d : Addr) (o : Obj) (kvs : List (List Key × V)) : It :=
  ⟨fun i H => H d = some (.frz o (.dT kvs)) ∧ i < kvs.length, fun i H x H' => ∃ T k v q, kvs[i]? = some (k, v) ∧ x = .ref T ∧ H T = none ∧ H q = some (.tup (k.map kV)) ∧ H' = upd H T (.tup [.ref q, v]), fun i H => H d = some (.frz o (.dT kvs)) ∧ kvs.length ≤ i⟩
theorem turn_itemsT {P : Program} {w : World} {K : PySem.W.Frag} {d : Addr} {o : Obj} {es : Array DictEntry} {ep : Nat} {kvs : List (List Key × V)} {elts : List Expr} {kk : Nat} {tpos : Pos} (it : Addr) (hod : o.data = .dict es ep) :
    Turn P w K (.Tuple elts kk tpos) (ItiT d o kvs) [it] it (fun i h => ∃ ok ov, IsItemIter h it d i kvs.length ep ok ov) where
  mem := by simp
  obj := fun i h st b hb => by
    have e : b = it := by simpa using hb
    subst e
    obtain ⟨ok, ov, e⟩ := st
    exact ⟨_, e, fun v z => nomatch z⟩
  keep := fun i h h' st k => let ⟨ok, ov, e⟩ := st; ⟨ok, ov, k it (by simp) _ e⟩
  item := by
    intro X hP hw hK hc i pins s σ H E I hf st hg
    subst hP hw hK
    obtain ⟨hd, hi⟩ := hg
    obtain ⟨hs, hgd, es', ep', hdt, hm, hsz, ent⟩ := frzT2 I hd
    obtain ⟨rfl, rfl⟩ := dict_ep hod hdt
    obtain ⟨⟨k, v⟩, hkv⟩ : ∃ p, kvs[i]? = some p := ⟨kvs[i], List.getElem?_eq_getElem hi⟩
    obtain ⟨hi', q, hkey, hq, ru⟩ := ent i k v hkv
    obtain ⟨ok, ov, he⟩ := st
    rw [← hsz] at he
    have hlt : it < s.heap.objs.size := Heap.lt_size he
    refine wpAny_pyNext_items_item_raw he hm hi' fun h' ho hT hz hk => ?_
    refine ⟨_, rfl, wpAny_letOwnedTupleGo_items (s := { s with heap := h' }) ho fun h'' he' sb => ?_⟩
    have hT2 : h''.get? s.heap.objs.size = some { cls := .type "tuple", data := .seq #[es'[i].key, es'[i].val] } := (sb.2 _ (Nat.ne_of_gt hlt)).trans hT
    have new : ObjOk X.prog X.w (upd H s.heap.objs.size (.tup [.ref q, v])) h'' s.heap.objs.size (.tup [.ref q, v]) :=
      ⟨by show 2 ≤ sizeLine; decide, [es'[i].key, es'[i].val], .cons (show RelV (.ref q) _ from hkey) (.cons ru .nil), ⟨_, hT2, rfl, _, rfl⟩⟩
    have I1 : Inv X pins σ (upd H s.heap.objs.size (.tup [.ref q, v])) { s with heap := h'' } :=
      I.turnedNew (t' := s.toks) (ch := [it]) (fun b ob hb e => (sb.2 b (by simpa using hb)).trans (hk b ob (by simpa using hb) e)) hf (Nat.le_refl _) new
    refine ⟨.ref s.heap.objs.size, _, I1, rfl, ⟨_, k, v, q, hkv, rfl, I.hok.fresh (Nat.le_refl _), hq, rfl⟩, ⟨es'[i].key, es'[i].val, ?_⟩, fun b hb => ?_⟩
    · rw [← hsz]; exact he'
    · have e : b = it := by simpa using hb
      rw [e, upd_ne (Nat.ne_of_lt hlt)]
      exact (hf it (by simp)).1
  done := by
    intro X hP hw hK hc i pins s σ H E I hf st hg
    subst hP hw hK
    obtain ⟨hd, hi⟩ := hg
    obtain ⟨f0, f1, f2, f3, f4, f5⟩ := hf it (by simp)
    obtain ⟨hs, hgd, es', ep', hdt, hm, hsz, ent⟩ := frzT2 I hd
    obtain ⟨rfl, rfl⟩ := dict_ep hod hdt
    obtain ⟨ok, ov, he⟩ := st
    rw [← hsz] at he
    exact wpAny_pyNext_items_end_raw (I.ok.hd hc) he hm (by omega) fun h' eb => ⟨rfl, I.turned (t' := s.toks) (fun b ob hb e => eb b ob hb e) f0 f1 f3 f4 f5⟩
  self := fun A i s Q E st h => let ⟨_, _, e⟩ := st; PySem.W.kcp_self e h
def tItemsT (td : TE) : TI := fun σ H R => td σ H fun x H1 => ∃ d o kvs, x = .ref d ∧ H1 d = some (.frz o (.dT kvs)) ∧ R (ItiT d o kvs) H1
theorem pi_itemsT {X : Cx} {e : Expr} {td : TE} {apos cpos : Pos} {elts : List Expr} {kk : Nat} {tpos : Pos} (he : PE X e td) (hbase : attributeBase e "items" X.env (eval e X.env) = eval e X.env := by rfl) (hline : (apos.endLine == cpos.line) = true := by rfl) :
    PI X (.Tuple elts kk tpos) (.Call (.Attribute e "items" apos) [] [] cpos) (tItemsT td) := by
  refine ⟨fun pins s σ H R I h => ?_⟩
  refine wpAny_Call_method (T := "dict") (id := "dict.items") hbase rfl hline F.plainAttrs_dict F.slot_dict_items F.type_dict_items (thn (he.run pins s σ H _ I h) fun u s1 ⟨x, H1, I1, rx, d, o, kvs, ex, hd, q⟩ => ?_)
  subst ex
  obtain rfl : u = Value.ref d := rx
  obtain ⟨hs, hgd, es, ep, hdt, hm, hsz, ent⟩ := frzT2 I1 hd
  obtain ⟨o', ho', hx', hd'⟩ := id hm
  refine ⟨⟨o', ho', hx'.1⟩, fun b e => by cases e; exact ⟨o', ho', hx'.2.1⟩, ?_⟩
  have I2 : Inv X pins σ H1 { s1 with heap := s1.heap.push { cls := .type "dict_items", data := .fields #[.ref d] } } := I1.kept (t' := s1.toks) fun b ob q => Heap.get?_push_of_some _ q
  have hm2 : (s1.heap.push { cls := .type "dict_items", data := .fields #[.ref d] }).DictRaw d es ep := ⟨o', Heap.get?_push_of_some _ ho', hx', hd'⟩
  have fin : wpAny (model X.prog X.w) X.A (pyIter (.ref s1.heap.objs.size)) (PIE X pins σ (.Tuple elts kk tpos) R) X.xe { s1 with heap := s1.heap.push { cls := .type "dict_items", data := .fields #[.ref d] } } := by
    refine wpAny_pyIter_items_raw (d := d) ⟨_, Heap.get?_push_size _ rfl, rfl, rfl⟩ hm2 (pi_one (tk := s1.toks) I2 _ (turn_itemsT _ hdt) ⟨.none, .none, ?_⟩ q)
    rw [← hsz]
    exact Heap.get?_push_size _ rfl
  show wpAny _ _ (callWith cpos (.builtin "dict.items") [.ref d] [] []) _ X.xe s1
  exact method_meetsIn F.slot_dict_items F.entry_dict_items rfl (PySem.evalArgs_none ⟨rfl, ⟨o', ho', hx'.1⟩, F.args_dict_items_1 _, _, meets_dict_items_raw d hs, ⟨es, ep, hm⟩, fin⟩)
end DW
namespace FW
open PySem PySem.Spec L2 DW
section
variable {K : PySem.W.Frag} {w : Option Dw} {G : Gd} {F F1 F2 F0 H H1 H2 : Hp} {X : Cx} {W : WX} {e : Expr} {fe : FE} {pos apos cpos tpos : Pos}
theorem walkKTI {d : Addr} {o : Obj} {ks : List (List Key)} {vs : List V} {ds : List D} (hl : ks.length = vs.length) (l : RepL K F0 vs ds) : DWalk K w (fun F H => Sub F0 F ∧ H d = some (.frz o (.dT (ks.zip vs)))) (ItiT d o (ks.zip vs)) (pairsD ((ks.map fun k => PyData.tuple (k.map keyD)).zip ds)) := by
  intro F H ⟨s0, h⟩ x0
  have e0 : (ks.zip vs).length = (pairsD ((ks.map fun k => PyData.tuple (k.map keyD)).zip ds)).length := by unfold pairsD; simp [List.length_zip, RepL.length l]
  refine ⟨fun i hi => ⟨h, by rw [e0]; exact hi⟩, ⟨h, Nat.le_of_eq e0⟩, fun i x H' dd e y => ?_⟩
  obtain ⟨T, k, v, q, ekv, rfl, hT, hq, rfl⟩ := y
  obtain ⟨e1, e2⟩ := List.getElem?_zip_eq_some.mp ekv
  obtain ⟨d2, e3, r⟩ := RepL.get' l e2
  have : (pairsD ((ks.map fun k => PyData.tuple (k.map keyD)).zip ds))[i]? = some (.tuple [.tuple (k.map keyD), d2]) := by
    unfold pairsD
    rw [List.getElem?_map]
    have : ((ks.map fun k => PyData.tuple (k.map keyD)).zip ds)[i]? = some (.tuple (k.map keyD), d2) := List.getElem?_zip_eq_some.mpr ⟨by rw [List.getElem?_map, e1]; rfl, e3⟩
    rw [this]; rfl
  rw [this] at e
  cases e
  obtain ⟨F2, x2, s2, e4⟩ := Ext.tupIn x0 hq
  have x1 := x2.trans (x2.stay.laid (u := .tup [.ref q, v]) hT)
  have s1 : Sub F2 (upd F2 T (.tup [.ref q, v])) := upd_grow (x2.le.none hT)
  exact ⟨_, x1, .tup upd_same (.cons (RepD.mono s1 (.tup e4 (keysD_rep k))) (.cons (RepD.mono (s0.trans (s2.trans s1)) r) .nil))⟩
def iItemsT (f : FE) : FI := fun δ => (f δ).bind fun r => match r with
  | .im (.dict m) => gd (!isDK m) (.ok (pairsD (dBody m)))
  | _ => .no
theorem i_itemsT {elts : List Expr} {kk : Nat} (he : E_ X G W e fe) (hbase : attributeBase e "items" X.env (eval e X.env) = eval e X.env := by rfl) (hline : (apos.endLine == cpos.line) = true := by rfl) : I_ X G W true (.Tuple elts kk tpos) (.Call (.Attribute e "items" apos) [] [] cpos) (iItemsT fe) := PI.imp (pi_itemsT he hbase hline) fun σ H R ⟨F, δ, P, PX, S, q, k, xk⟩ => by
  refine ⟨F, δ, _, PX, S, Tr.sat_bind.mp q, fun v F1 H1 r x1 q1 p1 => ?_, xk⟩
  split at p1
  · rename_i m
    obtain ⟨g1, p1⟩ := gd_sat p1
    cases q1 with
    | dicK h hl l =>
      rw [isDK_K] at g1
      cases g1
    | dicT h hl l =>
      rename_i a o ks vs ds dd
      have h' := x1.le _ _ h
      exact ⟨a, o, _, rfl, h', k _ (fun F H => Sub F1 F ∧ H a = some (.frz o (.dT (ks.zip vs))) ∧ F a = some (.frz o (.dT (ks.zip vs)))) F1 H1 _ x1 ⟨Sub.refl, h', h⟩ (fun F H c x0 => walkKTI hl l F H ⟨c.1, c.2.1⟩ x0) stFz (by rw [← dBody_T (ks := ks) (ds := ds)]; exact p1)⟩
  · exact p1.elim
end
end FW
set_option Elab.async false
set_option linter.all false
set_option maxRecDepth 100000
set_option maxHeartbeats 4000000
namespace K40
open PySem PySem.Spec L2 DW FW
def top (i : Nat) : Stmt := PySem.Challenge.pw_grammarhall_k40_whole_lassos.main.body.getD i (.Pass ⟨0, 0, 0, 0⟩)
abbrev s_state_from : Stmt := top 4
abbrev n_state_from : List Str := ["machine", "state", "word", "alphabet", "table", "_", "sign"]
def B_state_from : FS := (sSq (sAsgF (fV 0) (gTup 3 (gsCons (gN 3) (gsCons (gN 4) (gsCons (gN 5) gsNil)))))
 (sSq (sForF (iS (fV 2)) (gN 6) (sSetF 1 (fOp gIx (fOp gIx (fV 4) (fV 1)) (fMtK isSB gSIdx (fV 3) (aCons (fV 6) aNil)))))
 (sRetF (fV 1))))
def F_state_from : FD := fnF n_state_from B_state_from
abbrev s_least_words : Stmt := top 6
abbrev n_least_words : List Str := ["machine", "alphabet", "table", "_", "found", "waiting", "state", "place", "sign", "after"]
def B_least_words : FS := (sSq (sAsgF (fV 0) (gTup 3 (gsCons (gN 1) (gsCons (gN 2) (gsCons (gN 3) gsNil)))))
 (sSq (sSetF 4 (fDispK (fC (.int 0)) (fC (.str ""))))
 (sSq (sSetF 5 (fLst (aCons (fC (.int 0)) aNil)))
 (sSq (sWhF (tTruF (fV 5)) (sSq (sPop0F 5 (gN 6))
 (sForF (iEG (aCons (fV 1) aNil)) (gTup 2 (gsCons (gN 7) (gsCons (gN 8) gsNil))) (sSq (sSetF 9 (fOp gIx (fOp gIx (fV 2) (fV 6)) (fV 7)))
 (sIfF (tB (fOp (gDinz true) (fV 9) (fV 4))) (sSq (sPutF 4 (fV 9) (fOp gAdd (fOp gDgz (fV 4) (fV 6)) (fV 8)))
 (sAppF 5 (fV 9))) sNx)))))
 (sRetVF 4)))))
def F_least_words : FD := fnF n_least_words B_least_words
abbrev s_words_back : Stmt := top 10
abbrev n_words_back : List Str := ["machine", "start", "alphabet", "table", "_", "found", "waiting", "state", "word", "place", "sign", "after"]
def B_words_back : FS := (sSq (sAsgF (fV 0) (gTup 3 (gsCons (gN 2) (gsCons (gN 3) (gsCons (gN 4) gsNil)))))
 (sSq (sSetF 5 fNewK)
 (sSq (sSetF 6 (fLst (aCons (fTup (aCons (fV 1) (aCons (fC (.str "")) aNil))) aNil)))
 (sSq (sWhF (tTruF (fV 6)) (sSq (sPop0F 6 (gTup 2 (gsCons (gN 7) (gsCons (gN 8) gsNil))))
 (sForF (iEG (aCons (fV 2) aNil)) (gTup 2 (gsCons (gN 9) (gsCons (gN 10) gsNil))) (sSq (sSetF 11 (fOp gIx (fOp gIx (fV 3) (fV 7)) (fV 9)))
 (sIfF (tB (fOp (gDinz true) (fV 11) (fV 5))) (sSq (sPutF 5 (fV 11) (fOp gAdd (fV 8) (fV 10)))
 (sAppF 6 (fTup (aCons (fV 11) (aCons (fOp gAdd (fV 8) (fV 10)) aNil))))) sNx)))))
 (sRetVF 5)))))
def F_words_back : FD := fnF n_words_back B_words_back
abbrev s_passes_end : Stmt := top 16
abbrev n_passes_end : List Str := ["machine", "state", "word", "found", "sign"]
def B_passes_end : FS := (sSq (sSetF 3 (fC (.bool false)))
 (sSq (sForF (iS (fV 2)) (gN 4) (sSq (sSetF 1 (fOp gIx (fOp gIx (fOp gIx (fV 0) (fC (.int 1))) (fV 1)) (fMtK isSB gSIdx (fOp gIx (fV 0) (fC (.int 0))) (aCons (fV 4) aNil))))
 (sSetF 3 (fOr (fV 3) (fOp (gInT false) (fV 1) (fOp gIx (fV 0) (fC (.int 2))))))))
 (sRetF (fTup (aCons (fV 1) (aCons (fV 3) aNil))))))
def F_passes_end : FD := fnF n_passes_end B_passes_end
abbrev s__law_longer : Stmt := top 24
abbrev n__law_longer : List Str := ["alphabet", "level", "words", "word", "sign"]
def B__law_longer : FS := (sSq (sSetF 2 (fLst aNil))
 (sSq (sForF (iL (fV 1)) (gN 3) (sExtF 2 (fLc (iS (fV 0)) (gN 4) tYes (fOp gAdd (fV 3) (fV 4)) [4])))
 (sRetVF 2)))
def F__law_longer : FD := fnF n__law_longer B__law_longer
abbrev s__law_state : Stmt := top 26
abbrev n__law_state : List Str := ["machine", "state", "word", "sign"]
def B__law_state : FS := (sSq (sForF (iS (fV 2)) (gN 3) (sSetF 1 (fOp gIx (fOp gIx (fOp gIx (fV 0) (fC (.int 1))) (fV 1)) (fMtK isSB gSIdx (fOp gIx (fV 0) (fC (.int 0))) (aCons (fV 3) aNil)))))
 (sRetF (fV 1)))
def F__law_state : FD := fnF n__law_state B__law_state
abbrev s__law_reach : Stmt := top 27
abbrev n__law_reach : List Str := ["machine", "found", "order", "at", "k", "after"]
def B__law_reach : FS := (sSq (sSetF 1 (fDispK (fC (.int 0)) (fC (.str ""))))
 (sSq (sSetF 2 (fLst (aCons (fC (.int 0)) aNil)))
 (sSq (sSetF 3 (fC (.int 0)))
 (sSq (sWhF (tB (fOp gLt (fV 3) (fCall gLen (aCons (fV 2) aNil)))) (sSq (sForF (iR1 (aCons (fCall gLen (aCons (fOp gIx (fV 0) (fC (.int 0))) aNil)) aNil)) (gN 4) (sSq (sSetF 5 (fOp gIx (fOp gIx (fOp gIx (fV 0) (fC (.int 1))) (fOp gIx (fV 2) (fV 3))) (fV 4)))
 (sIfF (tB (fOp (gDinz true) (fV 5) (fV 1))) (sSq (sPutF 1 (fV 5) (fOp gAdd (fOp gDgz (fV 1) (fOp gIx (fV 2) (fV 3))) (fOp gIx (fOp gIx (fV 0) (fC (.int 0))) (fV 4))))
 (sAppF 2 (fV 5))) sNx)))
 (sSetF 3 (fOp gAdd (fV 3) (fC (.int 1))))))
 (sRetVF 1)))))
def F__law_reach : FD := fnF n__law_reach B__law_reach
abbrev s__law_far : Stmt := top 29
abbrev n__law_far : List Str := ["lasso"]
def B__law_far : FS := (sRetF (fSlice (fOp gAdd (fOp gIx (fV 0) (fC (.int 0))) (fOp gMulS (fOp gIx (fV 0) (fC (.int 1))) (fC (.int 60)))) oN (oS (fC (.int 48)))))
def F__law_far : FD := fnF n__law_far B__law_far
abbrev s_root : Stmt := top 8
abbrev n_root : List Str := ["word", "length", "many"]
def B_root : FS := (sSq (sIfF (tB (fOp gEq (fV 0) (fC (.str "")))) (sRaise1F "InputError" (fC (.str "empty"))) sNx)
 (sSq (sForF (iR2 (aCons (fC (.int 1)) (aCons (fOp gAdd (fCall gLen (aCons (fV 0) aNil)) (fC (.int 1))) aNil))) (gN 1) (sSq (sSetF 2 (fOp gDiv (fCall gLen (aCons (fV 0) aNil)) (fV 1)))
 (sIfF (tB (fOp gEq (fOp gMulS (fSlice (fV 0) oN (oS (fV 1))) (fV 2)) (fV 0))) (sRetF (fTup (aCons (fSlice (fV 0) oN (oS (fV 1))) (aCons (fV 2) aNil)))) sNx)))
 (sRetF (fTup (aCons (fV 0) (aCons (fC (.int 1)) aNil))))))
def F_root : FD := fnF n_root B_root
abbrev s_need_loop : Stmt := top 12
abbrev n_need_loop : List Str := ["lasso"]
def B_need_loop : FS := (sIfF (tB (fOp gEq (fOp gIx (fV 0) (fC (.int 1))) (fC (.str "")))) (sRaise1F "InputError" (fC (.str "loop"))) sNx)
def F_need_loop : FD := fnF n_need_loop B_need_loop
abbrev s__law_pick : Stmt := top 22
abbrev n__law_pick : List Str := ["d", "menu"]
def B__law_pick : FS := (sRetF (fOp gIx (fV 1) (fCallC 2 F_take (aCons (fV 0) (aCons (fCall gLen (aCons (fV 1) aNil)) aNil)))))
def F__law_pick : FD := fnF n__law_pick B__law_pick
abbrev s__law_all : Stmt := top 23
abbrev n__law_all : List Str := ["alphabet", "length", "level", "words", "k"]
def B__law_all : FS := (sSq (sSetF 2 (fLst (aCons (fC (.str "")) aNil)))
 (sSq (sSetF 3 (fLst (aCons (fC (.str "")) aNil)))
 (sSq (sForF (iR1 (aCons (fV 1) aNil)) (gN 4) (sSq (sFrzDF 2 (sSetF 2 (fCallC 2 F__law_longer (aCons (fV 0) (aCons (fV 2) aNil)))))
 (sSetF 3 (fOp gAdd (fV 3) (fV 2)))))
 (sRetVF 3))))
def F__law_all : FD := fnF n__law_all B__law_all
abbrev s__law_goes : Stmt := top 30
abbrev n__law_goes : List Str := ["machine", "lasso", "state", "seen", "sign"]
def B__law_goes : FS := (sSq (sSetF 2 (fCallC 3 F__law_state (aCons (fV 0) (aCons (fC (.int 0)) (aCons (fOp gAdd (fOp gIx (fV 1) (fC (.int 0))) (fOp gMulS (fOp gIx (fV 1) (fC (.int 1))) (fCall gLen (aCons (fOp gIx (fV 0) (fC (.int 1))) aNil)))) aNil)))))
 (sSq (sSetF 3 (fLst aNil))
 (sSq (sForF (iS (fOp gMulS (fOp gMulS (fOp gIx (fV 1) (fC (.int 1))) (fCall gLen (aCons (fOp gIx (fV 0) (fC (.int 1))) aNil))) (fC (.int 3)))) (gN 4) (sSq (sSetF 2 (fOp gIx (fOp gIx (fOp gIx (fV 0) (fC (.int 1))) (fV 2)) (fMtK isSB gSIdx (fOp gIx (fV 0) (fC (.int 0))) (aCons (fV 4) aNil))))
 (sAppF 3 (fOp (gInT false) (fV 2) (fOp gIx (fV 0) (fC (.int 2)))))))
 (sRetF (fCall gAny (aCons (fV 3) aNil))))))
def F__law_goes : FD := fnF n__law_goes B__law_goes
abbrev s_least_lasso : Stmt := top 13
abbrev n_least_lasso : List Str := ["lasso", "stem", "loop"]
def B_least_lasso : FS := (sSq (sDropF (fCallF 1 F_need_loop (aCons (fV 0) aNil)))
 (sSq (sParF 1 2 (aCons (fOp gIx (fV 0) (fC (.int 0))) (aCons (fOp gIx (fCallF 1 F_root (aCons (fOp gIx (fV 0) (fC (.int 1))) aNil)) (fC (.int 0))) aNil)))
 (sSq (sWhF (tAndF (tB (fOp gNe (fV 1) (fC (.str "")))) (tB (fOp gEq (fOp gIx (fV 1) (fC (.int (-1)))) (fOp gIx (fV 2) (fC (.int (-1))))))) (sParF 1 2 (aCons (fSlice (fV 1) oN (oS (fC (.int (-1))))) (aCons (fOp gAdd (fOp gIx (fV 2) (fC (.int (-1)))) (fSlice (fV 2) oN (oS (fC (.int (-1)))))) aNil))))
 (sRetF (fTup (aCons (fV 1) (aCons (fV 2) aNil)))))))
def F_least_lasso : FD := fnF n_least_lasso B_least_lasso
abbrev s_sign_at : Stmt := top 15
abbrev n_sign_at : List Str := ["lasso", "place", "stem", "loop"]
def B_sign_at : FS := (sSq (sDropF (fCallF 1 F_need_loop (aCons (fV 0) aNil)))
 (sSq (sAsgF (fV 0) (gTup 2 (gsCons (gN 2) (gsCons (gN 3) gsNil))))
 (sRetF (fIf (tB (fOp gLt (fV 1) (fCall gLen (aCons (fV 2) aNil)))) (fOp gIx (fV 2) (fV 1)) (fOp gIx (fV 3) (fOp gMod (fOp gSub (fV 1) (fCall gLen (aCons (fV 2) aNil))) (fCall gLen (aCons (fV 3) aNil))))))))
def F_sign_at : FD := fnF n_sign_at B_sign_at
abbrev s_goes_on : Stmt := top 17
abbrev n_goes_on : List Str := ["machine", "lasso", "state", "seen", "ring", "own"]
def B_goes_on : FS := (sSq (sDropF (fCallF 1 F_need_loop (aCons (fV 1) aNil)))
 (sSq (sSetF 2 (fCallC 3 F_state_from (aCons (fV 0) (aCons (fC (.int 0)) (aCons (fOp gIx (fV 1) (fC (.int 0))) aNil)))))
 (sSq (sSetF 3 (fLst aNil))
 (sSq (sWhF (tB (fOp (gInL true) (fV 2) (fV 3))) (sSq (sAppF 3 (fV 2))
 (sSetF 2 (fOp gIx (fCallC 3 F_passes_end (aCons (fV 0) (aCons (fV 2) (aCons (fOp gIx (fV 1) (fC (.int 1))) aNil)))) (fC (.int 0))))))
 (sSq (sSetF 4 (fSlice (fV 3) (oS (fMtK isLB gLIndex (fV 3) (aCons (fV 2) aNil))) oN))
 (sRetF (fCall gAny (aCons (fLc (iLb (fV 4)) (gN 5) tYes (fOp gIx (fCallC 3 F_passes_end (aCons (fV 0) (aCons (fV 5) (aCons (fOp gIx (fV 1) (fC (.int 1))) aNil)))) (fC (.int 1))) [5]) aNil))))))))
def F_goes_on : FD := fnF n_goes_on B_goes_on
abbrev s__law_machine : Stmt := top 25
abbrev n__law_machine : List Str := ["d", "most", "alphabet", "many", "table", "state", "sign"]
def B__law_machine : FS := (sSq (sSetF 2 (fCallC 2 F__law_pick (aCons (fV 0) (aFCons (fLst (aCons (fC (.str "ab")) (aCons (fC (.str "ab")) (aCons (fC (.str "a")) (aCons (fC (.str "abc")) aNil))))) aNil))))
 (sSq (sSetF 3 (fOp gAdd (fC (.int 1)) (fCallC 2 F_take (aCons (fV 0) (aCons (fV 1) aNil)))))
 (sSq (sSetF 4 (fCall gTupOf (aCons (fLc (iR1 (aCons (fV 3) aNil)) (gN 5) tYes (fCall gTupOf (aCons (fLc (iS (fV 2)) (gN 6) tYes (fCallC 2 F_take (aCons (fV 0) (aCons (fV 3) aNil))) [6]) aNil)) [5]) aNil)))
 (sRetF (fTup (aCons (fV 2) (aCons (fV 4) (aCons (fCall gTupOf (aCons (fLc (iR1 (aCons (fV 3) aNil)) (gN 5) (tB (fOp gEq (fCallC 2 F_take (aCons (fV 0) (aCons (fC (.int 3)) aNil))) (fC (.int 0)))) (fV 5) [5]) aNil)) aNil))))))))
def F__law_machine : FD := fnF n__law_machine B__law_machine
abbrev s_same_lasso : Stmt := top 14
abbrev n_same_lasso : List Str := ["one", "other"]
def B_same_lasso : FS := (sRetF (fOp gEq (fCallF 1 F_least_lasso (aCons (fV 0) aNil)) (fCallF 1 F_least_lasso (aCons (fV 1) aNil))))
def F_same_lasso : FD := fnF n_same_lasso B_same_lasso
abbrev s_least_going_on : Stmt := top 18
abbrev n_least_going_on : List Str := ["machine", "state", "stem", "loop"]
def B_least_going_on : FS := (sSq (sForF (iItems (fFrz (fCallC 1 F_least_words (aCons (fV 0) aNil)))) (gTup 2 (gsCons (gN 1) (gsCons (gN 2) gsNil))) (sIfF (tB (fOp (gInT false) (fV 1) (fOp gIx (fV 0) (fC (.int 2))))) (sSq (sSetF 3 (fGet1 (fCallC 2 F_words_back (aCons (fV 0) (aCons (fV 1) aNil))) (fV 1)))
 (sIfF (tB (fOp (gIsN true) (fV 3) (fC .none))) (sRetF (fCallF 1 F_least_lasso (aCons (fTup (aCons (fV 2) (aCons (fV 3) aNil))) aNil))) sNx)) sNx))
 (sRetF (fC .none)))
def F_least_going_on : FD := fnF n_least_going_on B_least_going_on
abbrev s__law_code : Stmt := top 28
abbrev n__law_code : List Str := ["which", "machine", "e"]
def B__law_code : FS := (sSq (sTryAF [("InputError", true)] "InputError" "code" (sIfF (tB (fOp gEq (fV 0) (fC (.int 0)))) (sDropF (fCallF 1 F_least_lasso (aCons (fTup (aCons (fC (.str "a")) (aCons (fC (.str "")) aNil))) aNil))) (sIfF (tB (fOp gEq (fV 0) (fC (.int 1)))) (sDropF (fCallF 2 F_sign_at (aCons (fTup (aCons (fC (.str "a")) (aCons (fC (.str "")) aNil))) (aCons (fC (.int 0)) aNil)))) (sDropF (fCallF 2 F_goes_on (aCons (fV 1) (aCons (fTup (aCons (fC (.str "a")) (aCons (fC (.str "")) aNil))) aNil)))))))
 (sRetF (fC (.str ""))))
def F__law_code : FD := fnF n__law_code B__law_code
abbrev s_law : Stmt := top 31
abbrev n_law : List Str := ["script", "d", "machine", "alphabet", "words", "turn", "one", "other", "same", "least", "size", "length", "own", "reach", "due", "state", "back", "told", "which", "word", "k"]
def B_law : FS := (sSq (sSetF 2 (fCallC 2 F__law_machine (aCons (fV 1) (aCons (fC (.int 4)) aNil))))
 (sSq (sIfF (tB (fOp gNe (fLc (iT (fTup (aCons (fC (.int 0)) (aCons (fC (.int 1)) (aCons (fC (.int 2)) aNil))))) (gN 18) tYes (fCallC 2 F__law_code (aCons (fV 18) (aCons (fV 2) aNil))) [18]) (fOp gMulL (fLst (aCons (fC (.str "loop")) aNil)) (fC (.int 3))))) (sRetF (fC (.bool false))) sNx)
 (sSq (sSetF 3 (fOp gIx (fV 2) (fC (.int 0))))
 (sSq (sSetF 4 (fCallC 2 F__law_all (aCons (fV 3) (aCons (fC (.int 3)) aNil))))
 (sSq (sForF (iR1 (aCons (fC (.int 4)) aNil)) (gN 5) (sSq (sFrzDF 4 (sSetF 6 (fTup (aFCons (fCallC 2 F__law_pick (aCons (fV 1) (aCons (fV 4) aNil))) (aFCons (fCallC 2 F__law_pick (aCons (fV 1) (aFCons (fSlice (fV 4) (oS (fC (.int 1))) oN) aNil))) aNil)))))
 (sSq (sSetF 7 (fCallC 2 F__law_pick (aCons (fV 1) (aFCons (fLst (aCons (fTup (aFCons (fCallC 2 F__law_pick (aCons (fV 1) (aCons (fV 4) aNil))) (aFCons (fCallC 2 F__law_pick (aCons (fV 1) (aFCons (fSlice (fV 4) (oS (fC (.int 1))) oN) aNil))) aNil))) (aCons (fTup (aCons (fOp gAdd (fOp gIx (fV 6) (fC (.int 0))) (fOp gIx (fV 6) (fC (.int 1)))) (aCons (fOp gAdd (fOp gIx (fV 6) (fC (.int 1))) (fOp gIx (fV 6) (fC (.int 1)))) aNil))) (aCons (fTup (aCons (fOp gAdd (fOp gIx (fV 6) (fC (.int 0))) (fSlice (fOp gIx (fV 6) (fC (.int 1))) oN (oS (fC (.int 1))))) (aCons (fOp gAdd (fSlice (fOp gIx (fV 6) (fC (.int 1))) (oS (fC (.int 1))) oN) (fSlice (fOp gIx (fV 6) (fC (.int 1))) oN (oS (fC (.int 1))))) aNil))) aNil)))) aNil))))
 (sSq (sSetF 8 (fOp gEq (fCallC 1 F__law_far (aCons (fV 6) aNil)) (fCallC 1 F__law_far (aCons (fV 7) aNil))))
 (sSq (sIfF (tOrF (tB (fOp gNe (fCallF 2 F_same_lasso (aCons (fV 6) (aCons (fV 7) aNil))) (fV 8))) (tB (fOp gNe (fOp gEq (fCallF 1 F_least_lasso (aCons (fV 6) aNil)) (fCallF 1 F_least_lasso (aCons (fV 7) aNil))) (fV 8)))) (sRetF (fC (.bool false))) sNx)
 (sSq (sSetF 9 (fC .none))
 (sSq (sForF (iR1 (aCons (fOp gAdd (fCall gLen (aCons (fOp gIx (fV 6) (fC (.int 0))) aNil)) (fC (.int 1))) aNil)) (gN 10) (sForF (iR2 (aCons (fC (.int 1)) (aCons (fOp gAdd (fCall gLen (aCons (fOp gIx (fV 6) (fC (.int 1))) aNil)) (fC (.int 1))) aNil))) (gN 11) (sSq (sSetF 12 (fTup (aCons (fSlice (fCallC 1 F__law_far (aCons (fV 6) aNil)) oN (oS (fV 10))) (aCons (fSlice (fCallC 1 F__law_far (aCons (fV 6) aNil)) (oS (fV 10)) (oS (fOp gAdd (fV 10) (fV 11)))) aNil))))
 (sSetF 9 (fIf (tAndF (tB (fOp (gIsN false) (fV 9) (fC .none))) (tB (fOp gEq (fCallC 1 F__law_far (aCons (fV 12) aNil)) (fCallC 1 F__law_far (aCons (fV 6) aNil))))) (fV 12) (fV 9))))))
 (sSq (sIfF (tOrF (tB (fOp gNe (fCallF 1 F_least_lasso (aCons (fV 6) aNil)) (fV 9))) (tB (fOp gNe (fMtK isSB gJoin (fC (.str "")) (aCons (fLc (iR1 (aCons (fC (.int 20)) aNil)) (gN 20) tYes (fCallC 2 F_sign_at (aCons (fV 6) (aCons (fV 20) aNil))) [20]) aNil)) (fSlice (fCallC 1 F__law_far (aCons (fV 6) aNil)) oN (oS (fC (.int 20))))))) (sRetF (fC (.bool false))) sNx)
 (sIfF (tB (fOp gNe (fCallF 2 F_goes_on (aCons (fV 2) (aCons (fV 6) aNil))) (fCallC 2 F__law_goes (aCons (fV 2) (aCons (fV 6) aNil))))) (sRetF (fC (.bool false))) sNx)))))))))
 (sSq (sSetF 13 (fCallC 1 F__law_reach (aCons (fV 2) aNil)))
 (sSq (sSetF 14 (fC .none))
 (sSq (sFrzDF 13 (sForF (iKeys (fV 13)) (gN 15) (sIfF (tAndF (tB (fOp (gInT false) (fV 15) (fOp gIx (fV 2) (fC (.int 2))))) (tB (fOp (gIsN false) (fV 14) (fC .none)))) (sSq (sSetF 16 (fLc (iLb (fSlice (fCallC 2 F__law_all (aCons (fV 3) (aCons (fC (.int 4)) aNil))) (oS (fC (.int 1))) oN)) (gN 19) (tB (fOp gEq (fCallC 3 F__law_state (aCons (fV 2) (aCons (fV 15) (aCons (fV 19) aNil)))) (fV 15))) (fV 19) [19]))
 (sSetF 14 (fIf (tB (fOp gGt (fCall gLen (aCons (fV 16) aNil)) (fC (.int 0)))) (fTup (aFCons (fOp gDgz (fV 13) (fV 15)) (aFCons (fOp gIx (fV 16) (fC (.int 0))) aNil))) (fC .none)))) sNx)))
 (sSq (sSetF 17 (fCallF 1 F_least_going_on (aCons (fV 2) aNil)))
 (sRetF (fAnd (fOp gEq (fV 17) (fIf (tB (fOp (gIsN false) (fV 14) (fC .none))) (fC .none) (fCallF 1 F_least_lasso (aCons (fV 14) aNil)))) (fOr (fOp (gIsN false) (fV 17) (fC .none)) (fCallC 2 F__law_goes (aCons (fV 2) (aCons (fV 17) aNil)))))))))))))))
def F_law : Tr R := lawF 21 B_law
end K40
set_option Elab.async false
set_option linter.all false
set_option maxRecDepth 100000
set_option maxHeartbeats 4000000
namespace K40
open PySem PySem.Spec L2 DW FW
/-- a drawn machine: K signs, a row of K states per state, the accepting states -/
structure Mc where
  K : Nat
  tab : List (List Nat)
  acc : List Nat
def encI (i : Nat) : D := .int (i : Nat)
def encT (t : List (List Nat)) : D := .tuple (t.map fun r => .tuple (r.map encI))
def Mc.al (M : Mc) : Str := tx (List.range M.K)
def Mc.enc (M : Mc) : D := .tuple [.str M.al, encT M.tab, .tuple (M.acc.map encI)]
def Mc.st (M : Mc) (s i : Nat) : Nat := (M.tab.getD s []).getD i 0
def Mc.run (M : Mc) (s : Nat) (l : List Nat) : Nat := l.foldl M.st s
structure Mc.Ok (M : Mc) : Prop where
  k : M.K = 1 ∨ M.K = 2 ∨ M.K = 3
  n0 : 0 < M.tab.length
  n1 : M.tab.length ≤ 4
  row : ∀ r ∈ M.tab, r.length = M.K ∧ ∀ p ∈ r, p < M.tab.length
section
variable {M : Mc} {s i n : Nat} {l : List Nat}
theorem Mc.Ok.cell (h : M.Ok) (hs : s < M.tab.length) (hi : i < M.K) : ∃ r, M.tab[s]? = some r ∧ r[i]? = some (M.st s i) ∧ M.st s i < M.tab.length := by
  have e := List.getElem?_eq_getElem hs
  obtain ⟨h1, h2⟩ := h.row _ (List.getElem_mem hs)
  have hi' : i < (M.tab[s]).length := by rw [h1]; exact hi
  have ea : M.st s i = (M.tab[s])[i] := by unfold Mc.st; simp [List.getD, e, hi']
  refine ⟨_, e, by rw [ea]; exact List.getElem?_eq_getElem hi', ?_⟩
  rw [ea]
  exact h2 _ (List.getElem_mem hi')
theorem Mc.run_lt (h : M.Ok) : ∀ (l : List Nat) (s : Nat), s < M.tab.length → (∀ i ∈ l, i < M.K) → M.run s l < M.tab.length
  | [], s, hs, _ => hs
  | i :: r, s, hs, hl => by
    obtain ⟨_, _, _, h1⟩ := h.cell hs (hl i (List.mem_cons_self ..))
    exact Mc.run_lt h r _ h1 fun j hj => hl j (List.mem_cons_of_mem _ hj)
theorem Mc.run_snoc : M.run s (l ++ [i]) = M.st (M.run s l) i := by unfold Mc.run; rw [List.foldl_append]; rfl
theorem Mc.run_app {a b : List Nat} : M.run s (a ++ b) = M.run (M.run s a) b := by unfold Mc.run; rw [List.foldl_append]
theorem sidx {K : Nat} (hk : K = 1 ∨ K = 2 ∨ K = 3) (hi : i < K) : gSIdx (.im (.str (tx (List.range K)))) [.im (.str (tx [i]))] = .ok (.im (.int (i : Nat))) := by
  rcases hk with rfl | rfl | rfl
  · have : i = 0 := by omega
    subst this; rfl
  · have : i = 0 ∨ i = 1 := by omega
    rcases this with rfl | rfl <;> rfl
  · have : i = 0 ∨ i = 1 ∨ i = 2 := by omega
    rcases this with rfl | rfl | rfl <;> rfl
theorem rowsAt {t : List (List Nat)} {r : List Nat} (h : t[s]? = some r) : gIx (.im (encT t)) (.im (.int (s : Nat))) = .ok (.im (.tuple (r.map encI))) := ix_tup (by rw [List.getElem?_map, h]; rfl)
theorem cellAt {r : List Nat} {p : Nat} (h : r[i]? = some p) : gIx (.im (.tuple (r.map encI))) (.im (.int (i : Nat))) = .ok (.im (.int (p : Nat))) := ix_tup (by rw [List.getElem?_map, h]; rfl)
theorem take_succ {l : List Nat} (h : l[i]? = some n) : l.take (i + 1) = l.take i ++ [n] := by rw [List.take_succ, h]; rfl
theorem sgAt {d : D} (h : (signs (tx l))[i]? = some d) : ∃ c, l[i]? = some c ∧ d = .str (tx [c]) := by
  rw [signs_tx, List.getElem?_map] at h
  cases e : l[i]? with
  | none => rw [e] at h; cases h
  | some c => rw [e] at h; exact ⟨c, rfl, (Option.some.inj h).symm⟩
/-- one step, told from the machine's value -/
theorem step_ok {δ : DEnv} {fm fs fc : FE} {q c : Nat} (h : M.Ok) (hq : q < M.tab.length) (hc : c < M.K) (em : fm δ = .ok (.im M.enc)) (es : fs δ = .ok (.im (.int (q : Nat)))) (ec : fc δ = .ok (.im (.str (tx [c])))) :
    fOp gIx (fOp gIx (fOp gIx fm (fC (.int 1))) fs) (fMtK isSB gSIdx (fOp gIx fm (fC (.int 0))) (aCons fc aNil)) δ = .ok (.im (.int (M.st q c : Nat))) := by
  obtain ⟨r, c1, c2, _⟩ := h.cell hq hc
  exact op_ok (op_ok (op_ok em rfl rfl) es (rowsAt c1)) (mtk_ok (op_ok em rfl rfl) rfl (cons_ok ec rfl) (sidx h.k hc)) (cellAt c2)
theorem law_state_ok (h : M.Ok) (hs : s < M.tab.length) (hl : ∀ i ∈ l, i < M.K) : F__law_state [.im M.enc, .im (.int (s : Nat)), .im (.str (tx l))] = .ok (.im (.int (M.run s l : Nat))) := by
  have hlen : (signs (tx l)).length = l.length := by rw [signs_tx, List.length_map]
  obtain ⟨δ', e1, x, e2⟩ := forF_ix0 (g := gN 3) (b := sSetF 1 (fOp gIx (fOp gIx (fOp gIx (fV 0) (fC (.int 1))) (fV 1)) (fMtK isSB gSIdx (fOp gIx (fV 0) (fC (.int 0))) (aCons (fV 3) aNil))))
    (δ := [some (.im M.enc), some (.im (.int (s : Nat))), some (.im (.str (tx l))), none])
    (fun i δ => ∃ x, δ = [some (.im M.enc), some (.im (.int (M.run s (l.take i) : Nat))), some (.im (.str (tx l))), x])
    (signs (tx l)) ⟨none, rfl⟩ (by
      rintro i d δ hd ⟨x, rfl⟩
      obtain ⟨c, hc, rfl⟩ := sgAt hd
      have hcK : c < M.K := hl c (List.mem_of_getElem? hc)
      have r1 := Mc.run_lt h (l.take i) s hs fun j hj => hl j (List.mem_of_mem_take hj)
      refine ⟨_, _, rfl, set_ok (step_ok h r1 hcK rfl rfl rfl) rfl, some (.im (.str (tx [c]))), ?_⟩
      rw [take_succ hc, Mc.run_snoc]
      rfl)
  subst e2
  rw [hlen, List.take_length] at e1
  exact fn_ok ((sq_nx (for_ok rfl e1)).trans (ret_ok rfl)) rfl
theorem state_from_ok (h : M.Ok) (hs : s < M.tab.length) (hl : ∀ i ∈ l, i < M.K) : F_state_from [.im M.enc, .im (.int (s : Nat)), .im (.str (tx l))] = .ok (.im (.int (M.run s l : Nat))) := by
  have hlen : (signs (tx l)).length = l.length := by rw [signs_tx, List.length_map]
  obtain ⟨δ', e1, x, e2⟩ := forF_ix0 (g := gN 6) (b := sSetF 1 (fOp gIx (fOp gIx (fV 4) (fV 1)) (fMtK isSB gSIdx (fV 3) (aCons (fV 6) aNil))))
    (δ := [some (.im M.enc), some (.im (.int (s : Nat))), some (.im (.str (tx l))), some (.im (.str M.al)), some (.im (encT M.tab)), some (.im (.tuple (M.acc.map encI))), none])
    (fun i δ => ∃ x, δ = [some (.im M.enc), some (.im (.int (M.run s (l.take i) : Nat))), some (.im (.str (tx l))), some (.im (.str M.al)), some (.im (encT M.tab)), some (.im (.tuple (M.acc.map encI))), x])
    (signs (tx l)) ⟨none, rfl⟩ (by
      rintro i d δ hd ⟨x, rfl⟩
      obtain ⟨c, hc, rfl⟩ := sgAt hd
      have hcK : c < M.K := hl c (List.mem_of_getElem? hc)
      have r1 := Mc.run_lt h (l.take i) s hs fun j hj => hl j (List.mem_of_mem_take hj)
      obtain ⟨r, c1, c2, _⟩ := h.cell r1 hcK
      refine ⟨_, _, rfl, set_ok (op_ok (op_ok rfl rfl (rowsAt c1)) (mtk_ok rfl rfl rfl (sidx h.k hcK)) (cellAt c2)) rfl, some (.im (.str (tx [c]))), ?_⟩
      rw [take_succ hc, Mc.run_snoc]
      rfl)
  subst e2
  rw [hlen, List.take_length] at e1
  exact fn_ok ((sq_nx (asg_ok rfl rfl rfl)).trans ((sq_nx (for_ok rfl e1)).trans (ret_ok rfl))) rfl
end
end K40
set_option Elab.async false
set_option linter.all false
set_option maxRecDepth 100000
set_option maxHeartbeats 4000000
namespace K40
open PySem PySem.Spec L2 DW FW
section
variable {M : Mc} {s i n : Nat} {l : List Nat}
def Mc.hit (M : Mc) (q : Nat) : Bool := decide (q ∈ M.acc)
/-- the states a walk comes through, its start left out -/
def Mc.tr (M : Mc) : Nat → List Nat → List Nat
  | _, [] => []
  | s, i :: r => M.st s i :: Mc.tr M (M.st s i) r
theorem Mc.tr_snoc : ∀ {l : List Nat} {s : Nat}, M.tr s (l ++ [i]) = M.tr s l ++ [M.st (M.run s l) i]
  | [], s => rfl
  | j :: r, s => by show M.st s j :: M.tr (M.st s j) (r ++ [i]) = _; rw [Mc.tr_snoc (l := r)]; rfl
theorem Mc.tr_app : ∀ {a b : List Nat} {s : Nat}, M.tr s (a ++ b) = M.tr s a ++ M.tr (M.run s a) b
  | [], b, s => rfl
  | j :: r, b, s => by show M.st s j :: M.tr (M.st s j) (r ++ b) = _; rw [Mc.tr_app (a := r)]; rfl
theorem Mc.tr_len : ∀ {l : List Nat} {s : Nat}, (M.tr s l).length = l.length
  | [], s => rfl
  | j :: r, s => by show (M.tr (M.st s j) r).length + 1 = _; rw [Mc.tr_len (l := r)]; rfl
def Mc.goes (M : Mc) (s : Nat) (l : List Nat) : Bool := (M.tr s l).any M.hit
theorem Mc.goes_snoc : M.goes s (l ++ [i]) = (M.goes s l || M.hit (M.st (M.run s l) i)) := by
  unfold Mc.goes
  rw [Mc.tr_snoc, List.any_append]
  simp
theorem inT_ok {q : Nat} {acc : List Nat} : gInT false (.im (.int (q : Nat))) (.im (.tuple (acc.map encI))) = .ok (.im (.bool (decide (q ∈ acc)))) := by
  have e : acc.map encI = (acc.map fun i => ((i : Nat) : Int)).map PyData.int := by rw [List.map_map]; rfl
  unfold gInT
  show (ofO (intsOf (acc.map encI))).bind _ = _
  rw [e, intsOf_map]
  show Tr.ok (R.im (PyData.bool (decide ((q : Int) ∈ acc.map fun i => ((i : Nat) : Int))))) = _
  have : ((q : Int) ∈ acc.map fun i => ((i : Nat) : Int)) ↔ q ∈ acc := by
    rw [List.mem_map]
    exact ⟨fun ⟨a, h1, h2⟩ => (Int.ofNat.inj h2) ▸ h1, fun h => ⟨q, h, rfl⟩⟩
  rw [decide_eq_decide.mpr this]
theorem hit_ok {δ : DEnv} {fm fs : FE} {q : Nat} (em : fm δ = .ok (.im M.enc)) (es : fs δ = .ok (.im (.int (q : Nat)))) : fOp (gInT false) fs (fOp gIx fm (fC (.int 2))) δ = .ok (.im (.bool (M.hit q))) :=
  op_ok es (op_ok em rfl rfl) inT_ok
theorem or_ok {δ : DEnv} {fa fb : FE} {a b : Bool} (ha : fa δ = .ok (.im (.bool a))) (hb : fb δ = .ok (.im (.bool b))) : fOr fa fb δ = .ok (.im (.bool (a || b))) := by
  unfold fOr
  rw [ha, bind_ok]
  cases a with
  | false => exact hb
  | true => rfl
theorem passes_end_ok (h : M.Ok) (hs : s < M.tab.length) (hl : ∀ i ∈ l, i < M.K) : F_passes_end [.im M.enc, .im (.int (s : Nat)), .im (.str (tx l))] = .ok (.im (.tuple [.int (M.run s l : Nat), .bool (M.goes s l)])) := by
  have hlen : (signs (tx l)).length = l.length := by rw [signs_tx, List.length_map]
  obtain ⟨δ', e1, x, e2⟩ := forF_ix0 (g := gN 4) (b := sSq (sSetF 1 (fOp gIx (fOp gIx (fOp gIx (fV 0) (fC (.int 1))) (fV 1)) (fMtK isSB gSIdx (fOp gIx (fV 0) (fC (.int 0))) (aCons (fV 4) aNil)))) (sSetF 3 (fOr (fV 3) (fOp (gInT false) (fV 1) (fOp gIx (fV 0) (fC (.int 2)))))))
    (δ := [some (.im M.enc), some (.im (.int (s : Nat))), some (.im (.str (tx l))), some (.im (.bool false)), none])
    (fun i δ => ∃ x, δ = [some (.im M.enc), some (.im (.int (M.run s (l.take i) : Nat))), some (.im (.str (tx l))), some (.im (.bool (M.goes s (l.take i)))), x])
    (signs (tx l)) ⟨none, rfl⟩ (by
      rintro i d δ hd ⟨x, rfl⟩
      obtain ⟨c, hc, rfl⟩ := sgAt hd
      have hcK : c < M.K := hl c (List.mem_of_getElem? hc)
      have r1 := Mc.run_lt h (l.take i) s hs fun j hj => hl j (List.mem_of_mem_take hj)
      refine ⟨_, _, rfl, (sq_nx (set_ok (step_ok h r1 hcK rfl rfl rfl) rfl)).trans (set_ok (or_ok rfl (hit_ok rfl rfl)) rfl), some (.im (.str (tx [c]))), ?_⟩
      rw [take_succ hc, Mc.run_snoc, Mc.goes_snoc]
      rfl)
  subst e2
  rw [hlen, List.take_length] at e1
  exact fn_ok ((sq_nx rfl).trans ((sq_nx (for_ok rfl e1)).trans (ret_ok (tup2 (cons_ok rfl (cons_ok rfl rfl)))))) rfl
end
end K40
set_option Elab.async false
set_option linter.all false
set_option maxRecDepth 100000
set_option maxHeartbeats 4000000
namespace K40
open PySem PySem.Spec L2 DW FW
section
variable {M : Mc} {s i n : Nat} {l a b : List Nat}
def rep (n : Nat) (l : List Nat) : List Nat := (List.replicate n l).flatten
theorem rep_succ : rep (n + 1) l = l ++ rep n l := by unfold rep; rw [List.replicate_succ, List.flatten_cons]
theorem rep_len : (rep n l).length = n * l.length := by
  induction n with
  | zero => simp [rep]
  | succ n ih => rw [rep_succ, List.length_append, ih, Nat.succ_mul]; omega
theorem rep_mem {x : Nat} (h : x ∈ rep n l) : x ∈ l := by
  unfold rep at h
  obtain ⟨m, h1, h2⟩ := List.mem_flatten.mp h
  rw [(List.mem_replicate.mp h1).2] at h2
  exact h2
theorem foldA : ∀ (n : Nat) (z : Array Nat), ((List.replicate n (tx l).cps).foldl (· ++ ·) z).toList = z.toList ++ (rep n l).map (97 + ·)
  | 0, z => by simp [rep]
  | n + 1, z => by
    rw [List.replicate_succ, List.foldl_cons, foldA n, rep_succ, Array.toList_append, tx_cps, List.map_append, List.append_assoc]
theorem repS_tx : repS (tx l) ((n : Nat) : Int) = tx (rep n l) := by
  unfold repS tx
  congr 1
  apply Array.toList_inj.mp
  rw [Int.toNat_natCast]
  have := foldA (l := l) n #[]
  simpa [tx] using this
theorem mulS_ok (hn : n ≤ 1000) (hl : l.length ≤ 1000) : gMulS (.im (.str (tx l))) (.im (.int (n : Nat))) = .ok (.im (.str (tx (rep n l)))) := by
  unfold gMulS
  show gd (decide ((0 : Int) ≤ ((n : Nat) : Int)) && decide (((n : Nat) : Int) ≤ 1000) && decide ((tx l).length ≤ 1000)) _ = _
  rw [decide_eq_true (by omega), decide_eq_true (by omega), tx_len, decide_eq_true hl, repS_tx]
  rfl
theorem iS_ok {δ : DEnv} {f : FE} {z : Str} (h : f δ = .ok (.im (.str z))) : iS f δ = .ok (signs z) := by unfold iS; rw [h]; rfl
theorem lenT_ok {δ : DEnv} {f : FE} {xs : List D} (h : f δ = .ok (.im (.tuple xs))) : fCall gLen (aCons f aNil) δ = .ok (.im (.int (xs.length : Nat))) := call_ok (cons_ok h rfl) rfl
theorem many_ok {δ : DEnv} {f : FE} (h : f δ = .ok (.im M.enc)) : fCall gLen (aCons (fOp gIx f (fC (.int 1))) aNil) δ = .ok (.im (.int (M.tab.length : Nat))) := by
  have := lenT_ok (f := fOp gIx f (fC (.int 1))) (δ := δ) (xs := M.tab.map fun r => .tuple (r.map encI)) (op_ok h rfl rfl)
  rw [List.length_map] at this
  exact this
def encL (a b : List Nat) : D := .tuple [.str (tx a), .str (tx b)]
theorem law_goes_ok (h : M.Ok) (ha : ∀ i ∈ a, i < M.K) (hb : ∀ i ∈ b, i < M.K) (la : a.length ≤ 100) (lb : b.length ≤ 100) : F__law_goes [.im M.enc, .im (encL a b)] = .ok (.im (.bool (M.goes (M.run 0 (a ++ rep M.tab.length b)) (rep 3 (rep M.tab.length b))))) := by
  have hn := h.n1
  have hr : (rep M.tab.length b).length ≤ 400 := by rw [rep_len]; exact Nat.mul_le_mul hn lb
  have hr3 : (rep 3 (rep M.tab.length b)).length ≤ 1200 := by rw [rep_len]; omega
  have hrK : ∀ i ∈ rep M.tab.length b, i < M.K := fun i hi => hb i (rep_mem hi)
  have hw : ∀ i ∈ rep 3 (rep M.tab.length b), i < M.K := fun i hi => hrK i (rep_mem hi)
  have haw : ∀ i ∈ a ++ rep M.tab.length b, i < M.K := fun i hi => (List.mem_append.mp hi).elim (ha i) (hrK i)
  have hq := Mc.run_lt h (a ++ rep M.tab.length b) 0 h.n0 haw
  generalize hS : M.run 0 (a ++ rep M.tab.length b) = S at hq ⊢
  generalize hW : rep 3 (rep M.tab.length b) = w at hr3 hw ⊢
  have hlen : (signs (tx w)).length = w.length := by rw [signs_tx, List.length_map]
  have e0 : sSetF 2 (fCallC 3 F__law_state (aCons (fV 0) (aCons (fC (.int 0)) (aCons (fOp gAdd (fOp gIx (fV 1) (fC (.int 0))) (fOp gMulS (fOp gIx (fV 1) (fC (.int 1))) (fCall gLen (aCons (fOp gIx (fV 0) (fC (.int 1))) aNil)))) aNil)))) [some (.im M.enc), some (.im (encL a b)), none, none, none] = .ok (.nx [some (.im M.enc), some (.im (encL a b)), some (.im (.int (S : Nat))), none, none]) := by
    refine set_ok (r := .im (.int (S : Nat))) (callC_ok (cons_ok rfl (cons_ok rfl (cons_ok (add_S rfl (op_ok rfl (many_ok rfl) (mulS_ok (by omega) (by omega))) (by omega)) rfl))) rfl ?_) rfl
    rw [← hS]
    exact law_state_ok h h.n0 haw
  obtain ⟨δ', e1, x, y, e2⟩ := forF_ix0 (g := gN 4) (b := sSq (sSetF 2 (fOp gIx (fOp gIx (fOp gIx (fV 0) (fC (.int 1))) (fV 2)) (fMtK isSB gSIdx (fOp gIx (fV 0) (fC (.int 0))) (aCons (fV 4) aNil)))) (sAppF 3 (fOp (gInT false) (fV 2) (fOp gIx (fV 0) (fC (.int 2))))))
    (δ := [some (.im M.enc), some (.im (encL a b)), some (.im (.int (S : Nat))), some (.ol []), none])
    (fun i δ => ∃ x y, δ = [some (.im M.enc), some (.im (encL a b)), y, some (.ol ((M.tr S (w.take i)).map fun q => .bool (M.hit q))), x] ∧ y = some (.im (.int (M.run S (w.take i) : Nat))))
    (signs (tx w)) ⟨none, _, rfl, rfl⟩ (by
      rintro i d δ hd ⟨x, y, rfl, rfl⟩
      obtain ⟨c, hc, rfl⟩ := sgAt hd
      have hi : i < w.length := (List.getElem?_eq_some_iff.mp hc).1
      have hcK : c < M.K := hw c (List.mem_of_getElem? hc)
      have r1 := Mc.run_lt h (w.take i) S hq fun j hj => hw j (List.mem_of_mem_take hj)
      refine ⟨_, _, rfl, (sq_nx (set_ok (step_ok h r1 hcK rfl rfl rfl) rfl)).trans (app_ok rfl (hit_ok rfl rfl) rfl (by rw [List.length_map, Mc.tr_len, List.length_take]; omega)), some (.im (.str (tx [c]))), _, ?_, rfl⟩
      rw [take_succ hc, Mc.run_snoc, Mc.tr_snoc, List.map_append]
      rfl)
  obtain ⟨e2, e3⟩ := e2
  subst e2 e3
  rw [hlen, List.take_length] at e1
  have ew : iS (fOp gMulS (fOp gMulS (fOp gIx (fV 1) (fC (.int 1))) (fCall gLen (aCons (fOp gIx (fV 0) (fC (.int 1))) aNil))) (fC (.int 3))) [some (.im M.enc), some (.im (encL a b)), some (.im (.int (S : Nat))), some (.ol []), none] = .ok (signs (tx w)) := by
    rw [← hW]
    exact iS_ok (op_ok (op_ok rfl (many_ok rfl) (mulS_ok (by omega) (by omega))) rfl (mulS_ok (n := 3) (by omega) (by omega)))
  have ea : gAny [.ol ((M.tr S w).map fun q => .bool (M.hit q))] = .ok (.im (.bool (M.goes S w))) := by
    rw [any_ok (bs := (M.tr S w).map M.hit) (by rw [List.map_map]; rfl)]
    unfold Mc.goes
    rw [List.any_map]
    rfl
  exact fn_ok ((sq_nx e0).trans ((sq_nx rfl).trans ((sq_nx (for_ok ew e1)).trans (ret_ok (call_ok (cons_ok rfl rfl) ea))))) rfl
end
end K40
set_option Elab.async false
set_option linter.all false
set_option maxRecDepth 100000
set_option maxHeartbeats 4000000
namespace K40
open PySem PySem.Spec L2 DW FW
/-! values compared -/
section
variable {a b c e : List Nat} {m n : Nat} {acc : List Nat}
theorem eqv_tx : PyData.eqv (.str (tx a)) (.str (tx b)) = decide (a = b) := by
  rw [PyData.eqv]
  by_cases h : a = b
  · subst h; simp
  · rw [decide_eq_false h]
    have : tx a ≠ tx b := fun q => h (tx_inj q)
    simpa using this
theorem eqv_nat : PyData.eqv (.int (m : Nat)) (.int (n : Nat)) = decide (m = n) := by
  rw [PyData.eqv]
  by_cases h : m = n
  · subst h; simp
  · rw [decide_eq_false h]
    have : ((m : Nat) : Int) ≠ ((n : Nat) : Int) := by omega
    simpa using this
theorem eqv_L : PyData.eqv (encL a b) (encL c e) = (decide (a = c) && decide (b = e)) := by
  unfold encL
  rw [PyData.eqv, PyData.eqvAll, PyData.eqvAll, PyData.eqvAll, eqv_tx, eqv_tx, Bool.and_true]
def Sm (l : List Nat) : Prop := ∀ c ∈ l, c < 100
theorem okTx (h : Sm a) : PyData.strOk (tx a) = true := by
  unfold PyData.strOk tx
  simp only [List.all_toArray, List.all_map, List.all_eq_true]
  intro c hc
  have := h c hc
  show decide (97 + c < 0x110000) = true
  exact decide_eq_true (by omega)
theorem shp_tx (h : Sm a) : shp (.str (tx a)) = true := by
  unfold shp SeqAt.shaped
  rw [Bool.and_eq_true]
  exact ⟨by rw [PyData.canLay0]; exact okTx h, decide_eq_true (by simp [PyData.depth])⟩
theorem shp_L (ha : Sm a) (hb : Sm b) : shp (encL a b) = true := by
  unfold shp SeqAt.shaped encL
  rw [Bool.and_eq_true]
  exact ⟨by simp [PyData.canLay0, PyData.canLayAll0, okTx ha, okTx hb], decide_eq_true (by simp [PyData.depth, PyData.depthAll])⟩
theorem shp_nat : shp (.int (n : Nat)) = true := by
  unfold shp SeqAt.shaped
  rw [Bool.and_eq_true]
  exact ⟨by rw [PyData.canLay0], decide_eq_true (by simp [PyData.depth])⟩
theorem lay_nats : PyData.canLayAll0 (acc.map encI) = true := by
  induction acc with
  | nil => rfl
  | cons p r ih =>
    rw [List.map_cons, PyData.canLayAll0, ih]
    unfold encI
    simp [PyData.canLay0]
theorem dep_nats : PyData.depthAll (acc.map encI) ≤ 1 := by
  induction acc with
  | nil => simp [PyData.depthAll]
  | cons p r ih =>
    rw [List.map_cons, PyData.depthAll]
    have : PyData.depth (encI p) = 0 := by unfold encI; simp [PyData.depth]
    rw [this]
    omega
theorem shp_nats : shp (.list (acc.map encI)) = true := by
  unfold shp SeqAt.shaped
  rw [Bool.and_eq_true]
  refine ⟨by rw [PyData.canLay0]; exact lay_nats, decide_eq_true ?_⟩
  have := dep_nats (acc := acc)
  rw [PyData.depth]
  omega
theorem eq_tx (ha : Sm a) (hb : Sm b) : gEq (.im (.str (tx a))) (.im (.str (tx b))) = .ok (.im (.bool (decide (a = b)))) := by
  unfold gEq
  show gd (shp _ && shp _) (Tr.ok (R.im (PyData.bool (PyData.eqv _ _)))) = _
  rw [shp_tx ha, shp_tx hb, eqv_tx]; rfl
theorem ne_tx (ha : Sm a) (hb : Sm b) : gNe (.im (.str (tx a))) (.im (.str (tx b))) = .ok (.im (.bool (!decide (a = b)))) := by
  unfold gNe
  show gd (shp _ && shp _) (Tr.ok (R.im (PyData.bool (!PyData.eqv _ _)))) = _
  rw [shp_tx ha, shp_tx hb, eqv_tx]; rfl
theorem eq_L (ha : Sm a) (hb : Sm b) (hc : Sm c) (he : Sm e) : gEq (.im (encL a b)) (.im (encL c e)) = .ok (.im (.bool (decide (a = c) && decide (b = e)))) := by
  unfold gEq
  show gd (shp (encL a b) && shp (encL c e)) (Tr.ok (R.im (PyData.bool (PyData.eqv (encL a b) (encL c e))))) = _
  rw [shp_L ha hb, shp_L hc he, eqv_L]; rfl
theorem ne_L (ha : Sm a) (hb : Sm b) (hc : Sm c) (he : Sm e) : gNe (.im (encL a b)) (.im (encL c e)) = .ok (.im (.bool (!(decide (a = c) && decide (b = e))))) := by
  unfold gNe
  show gd (shp (encL a b) && shp (encL c e)) (Tr.ok (R.im (PyData.bool (!PyData.eqv (encL a b) (encL c e))))) = _
  rw [shp_L ha hb, shp_L hc he, eqv_L]; rfl
theorem inD_nat : inD (.int (n : Nat)) (acc.map encI) = decide (n ∈ acc) := by
  unfold inD
  rw [List.any_map]
  induction acc with
  | nil => rfl
  | cons x r ih =>
    rw [List.any_cons, ih]
    show (PyData.eqv (.int (x : Nat)) (.int (n : Nat)) || _) = _
    rw [eqv_nat]
    by_cases h : x = n
    · subst h; simp
    · have : ¬ n = x := fun q => h q.symm
      simp [h, this]
theorem findD_nat : ∀ (acc : List Nat) (i : Nat), n ∈ acc → findD (.int (n : Nat)) (acc.map encI) i = some (i + acc.idxOf n)
  | [], i, h => by cases h
  | x :: r, i, h => by
    rw [List.map_cons, findD]
    show (if PyData.eqv (.int (x : Nat)) (.int (n : Nat)) then _ else _) = _
    rw [eqv_nat]
    by_cases e : x = n
    · subst e; simp
    · have : n ∈ r := by
        rcases List.mem_cons.mp h with z | z
        · exact absurd z.symm e
        · exact z
      rw [decide_eq_false e, if_neg Bool.false_ne_true, findD_nat r (i + 1) this, List.idxOf_cons]
      have : (x == n) = false := by simpa using e
      rw [this]
      simp only [Option.some.injEq, cond_false]
      omega
theorem notin_nats : gInL true (.im (.int (n : Nat))) (.ol (acc.map encI)) = .ok (.im (.bool (!decide (n ∈ acc)))) := by
  unfold gInL
  show gd (shp (.int (n : Nat)) && shp (.list (acc.map encI))) (Tr.ok (R.im (PyData.bool (!inD (.int (n : Nat)) (acc.map encI))))) = _
  rw [shp_nat, shp_nats, inD_nat]; rfl
theorem index_nats (h : n ∈ acc) : gLIndex (.bl (acc.map encI)) [.im (.int (n : Nat))] = .ok (.im (.int (acc.idxOf n : Nat))) := by
  unfold gLIndex
  show gd (shp (.list (acc.map encI)) && shp (.int (n : Nat))) ((ofO (findD (.int (n : Nat)) (acc.map encI) 0)).bind _) = _
  rw [shp_nat, shp_nats, findD_nat acc 0 h, Nat.zero_add]; rfl
end
end K40
set_option Elab.async false
set_option linter.all false
set_option maxRecDepth 100000
set_option maxHeartbeats 4000000
namespace K40
open PySem PySem.Spec L2 DW FW
theorem nodup_lt : ∀ (N : Nat) (l : List Nat), l.Nodup → (∀ x ∈ l, x < N) → l.length ≤ N
  | 0, l, _, hb => by
    cases l with
    | nil => exact Nat.le_refl _
    | cons x r => exact absurd (hb x (List.mem_cons_self ..)) (Nat.not_lt_zero _)
  | N + 1, l, hd, hb => by
    by_cases h : N ∈ l
    · have h1 := nodup_lt N (l.erase N) (hd.erase N) fun x hx => by
        have h2 := (List.Nodup.mem_erase_iff hd).mp hx
        have := hb x h2.2
        omega
      rw [List.length_erase_of_mem h] at h1
      omega
    · have := nodup_lt N l hd fun x hx => by
        have h2 := hb x hx
        have : x ≠ N := fun e => h (e ▸ hx)
        omega
      omega
section
variable {M : Mc} {s i n : Nat} {l a b : List Nat}
theorem rep_snoc : rep (n + 1) l = rep n l ++ l := by unfold rep; rw [List.replicate_succ', List.flatten_append]; simp
def Mc.X (M : Mc) (a b : List Nat) (i : Nat) : Nat := M.run 0 (a ++ rep i b)
theorem Mc.X_succ : M.X a b (i + 1) = M.run (M.X a b i) b := by unfold Mc.X; rw [rep_snoc, ← List.append_assoc, Mc.run_app]
theorem Mc.X_lt (h : M.Ok) (ha : ∀ i ∈ a, i < M.K) (hb : ∀ i ∈ b, i < M.K) : M.X a b i < M.tab.length :=
  Mc.run_lt h _ 0 h.n0 fun j hj => (List.mem_append.mp hj).elim (ha j) fun z => hb j (rep_mem z)
theorem Mc.goes_app {a b : List Nat} : M.goes s (a ++ b) = (M.goes s a || M.goes (M.run s a) b) := by unfold Mc.goes; rw [Mc.tr_app, List.any_append]
/-- what so many rounds pass -/
theorem Mc.goes_rep : ∀ (m i : Nat), M.goes (M.X a b i) (rep m b) = (List.range m).any fun j => M.goes (M.X a b (i + j)) b
  | 0, i => rfl
  | m + 1, i => by
    rw [rep_snoc, Mc.goes_app, Mc.goes_rep m i, List.range_succ, List.any_append]
    have : M.run (M.X a b i) (rep m b) = M.X a b (i + m) := by
      induction m with
      | zero => rfl
      | succ m ih => rw [rep_snoc, Mc.run_app, ih, show i + (m + 1) = (i + m) + 1 by omega, Mc.X_succ]
    rw [this]
    simp
/-- from the first repeat on the walk is periodic -/
theorem Mc.X_per {j n : Nat} (hj : j ≤ n) (e : M.X a b n = M.X a b j) : ∀ t, M.X a b (n + t) = M.X a b (j + t)
  | 0 => e
  | t + 1 => by rw [← Nat.add_assoc, ← Nat.add_assoc, Mc.X_succ, Mc.X_succ, Mc.X_per hj e t]
theorem Mc.X_red {j n : Nat} (hj : j < n) (e : M.X a b n = M.X a b j) : ∀ (f t : Nat), t < f → ∃ r, j ≤ r ∧ r < n ∧ M.X a b (j + t) = M.X a b r
  | 0, t, h => absurd h (Nat.not_lt_zero _)
  | f + 1, t, h => by
    by_cases ht : j + t < n
    · exact ⟨j + t, by omega, ht, rfl⟩
    · obtain ⟨r, h1, h2, h3⟩ := Mc.X_red hj e f (t - (n - j)) (by omega)
      refine ⟨r, h1, h2, ?_⟩
      have h4 := Mc.X_per (Nat.le_of_lt hj) e (t - (n - j))
      rw [show n + (t - (n - j)) = j + t by omega] at h4
      rw [h4, h3]
theorem Mc.X_up {j n N : Nat} (hj : j < n) (hn : n ≤ N) (e : M.X a b n = M.X a b j) : ∀ (f m : Nat), j ≤ m → m < N + (n - j) → N - m ≤ f → ∃ m', N ≤ m' ∧ m' < N + (n - j) ∧ M.X a b m' = M.X a b m
  | 0, m, h1, h2, h3 => ⟨m, by omega, h2, rfl⟩
  | f + 1, m, h1, h2, h3 => by
    by_cases hm : N ≤ m
    · exact ⟨m, hm, h2, rfl⟩
    · obtain ⟨m', g1, g2, g3⟩ := Mc.X_up hj hn e f (m + (n - j)) (by omega) (by omega) (by omega)
      refine ⟨m', g1, g2, ?_⟩
      have h4 := Mc.X_per (Nat.le_of_lt hj) e (m - j)
      rw [show n + (m - j) = m + (n - j) by omega, show j + (m - j) = m by omega] at h4
      rw [g3, h4]
theorem Mc.ring {j n N : Nat} (hj : j < n) (hn : n ≤ N) (e : M.X a b n = M.X a b j) : ((List.range n).drop j).any (fun r => M.goes (M.X a b r) b) = M.goes (M.X a b N) (rep (3 * N) b) := by
  rw [Mc.goes_rep, Bool.eq_iff_iff, List.any_eq_true, List.any_eq_true]
  constructor
  · rintro ⟨r, hr, hg⟩
    obtain ⟨t, ht, et⟩ := List.mem_iff_getElem.mp hr
    rw [List.getElem_drop, List.getElem_range] at et
    rw [List.length_drop, List.length_range] at ht
    obtain ⟨m, h1, h2, h3⟩ := Mc.X_up hj hn e (N - r) r (by omega) (by omega) (Nat.le_refl _)
    refine ⟨m - N, List.mem_range.mpr (by omega), ?_⟩
    rw [show N + (m - N) = m by omega, h3]
    exact hg
  · rintro ⟨t, ht, hg⟩
    obtain ⟨r, h1, h2, h3⟩ := Mc.X_red hj e (N + t - j + 1) (N + t - j) (Nat.lt_succ_self _)
    rw [show j + (N + t - j) = N + t by omega] at h3
    refine ⟨r, List.mem_iff_getElem.mpr ⟨r - j, by rw [List.length_drop, List.length_range]; omega, ?_⟩, ?_⟩
    · rw [List.getElem_drop, List.getElem_range]; omega
    · rw [← h3]; exact hg
end
end K40
set_option Elab.async false
set_option linter.all false
set_option maxRecDepth 100000
set_option maxHeartbeats 4000000
namespace K40
open PySem PySem.Spec L2 DW FW
section
variable {M : Mc} {s i n : Nat} {l a b : List Nat}
theorem sm_K (h : M.Ok) (ha : ∀ i ∈ a, i < M.K) : Sm a := fun c hc => by
  have := ha c hc
  have := h.k
  omega
theorem empty_tx : (.str ("" : Str) : D) = .str (tx []) := rfl
theorem need_loop_ok (hb : b ≠ []) (sb : Sm b) : F_need_loop [.im (encL a b)] = .ok (.im .none) := by
  refine fn_nx (if_f (tB_ok ?_))
  refine op_ok (y := .im (.str (tx []))) (op_ok rfl rfl rfl) rfl ((eq_tx sb fun _ h => by cases h).trans ?_)
  rw [decide_eq_false hb]
theorem cut_drop {xs : List D} {j : Nat} (h : j ≤ xs.length) : cutD xs (some ((j : Nat) : Int)) none = xs.drop j := by
  unfold cutD
  have : HT.sIx xs.length 0 (some ((j : Nat) : Int)) = j := by
    rw [HT.sIx_nat]
    omega
  rw [this]
  show (xs.drop j).take (xs.length - j) = _
  rw [List.take_of_length_le]
  rw [List.length_drop]
  exact Nat.le_refl _
def Mc.xs (M : Mc) (a b : List Nat) (n : Nat) : List Nat := (List.range n).map (M.X a b)
theorem Mc.xs_len : (M.xs a b n).length = n := by unfold Mc.xs; rw [List.length_map, List.length_range]
theorem Mc.xs_succ : M.xs a b (n + 1) = M.xs a b n ++ [M.X a b n] := by unfold Mc.xs; rw [List.range_succ, List.map_append]; rfl
theorem Mc.xs_at {j : Nat} (h : j < n) : (M.xs a b n)[j]? = some (M.X a b j) := by unfold Mc.xs; rw [List.getElem?_map, List.getElem?_range h]; rfl
theorem passes_at {δ : DEnv} {fm fs fl : FE} {q : Nat} (h : M.Ok) (hq : q < M.tab.length) (hb : ∀ i ∈ b, i < M.K) (em : fm δ = .ok (.im M.enc)) (es : fs δ = .ok (.im (.int (q : Nat)))) (el : fl δ = .ok (.im (encL a b))) :
    fCallC 3 F_passes_end (aCons fm (aCons fs (aCons (fOp gIx fl (fC (.int 1))) aNil))) δ = .ok (.im (.tuple [.int (M.run q b : Nat), .bool (M.goes q b)])) :=
  callC_ok (cons_ok em (cons_ok es (cons_ok (op_ok el rfl rfl) rfl))) rfl (passes_end_ok h hq hb)
abbrev whG : FS := sSq (sAppF 3 (fV 2)) (sSetF 2 (fOp gIx (fCallC 3 F_passes_end (aCons (fV 0) (aCons (fV 2) (aCons (fOp gIx (fV 1) (fC (.int 1))) aNil)))) (fC (.int 0))))
theorem goes_on_ok (h : M.Ok) (ha : ∀ i ∈ a, i < M.K) (hb : ∀ i ∈ b, i < M.K) (b0 : b ≠ []) : F_goes_on [.im M.enc, .im (encL a b)] = .ok (.im (.bool (M.goes (M.X a b M.tab.length) (rep (3 * M.tab.length) b)))) := by
  have hn := h.n1
  have x0 : M.X a b 0 = M.run 0 a := by unfold Mc.X rep; simp
  obtain ⟨δ', e1, n, hnd, hin, e2⟩ := wh_ok (t := tB (fOp (gInL true) (fV 2) (fV 3))) (b := whG)
    (fun n δ => (M.xs a b n).Nodup ∧ δ = [some (.im M.enc), some (.im (encL a b)), some (.im (.int (M.X a b n : Nat))), some (.ol ((M.xs a b n).map encI)), none, none])
    (fun δ => ∃ n, (M.xs a b n).Nodup ∧ M.X a b n ∈ M.xs a b n ∧ δ = [some (.im M.enc), some (.im (encL a b)), some (.im (.int (M.X a b n : Nat))), some (.ol ((M.xs a b n).map encI)), none, none]) 5 (by
      rintro n δ ⟨hd, rfl⟩
      have hl : n ≤ M.tab.length := by
        have := nodup_lt M.tab.length (M.xs a b n) hd fun x hx => by
          obtain ⟨i, _, rfl⟩ := List.mem_map.mp hx
          exact Mc.X_lt h ha hb
        rwa [Mc.xs_len] at this
      by_cases hm : M.X a b n ∈ M.xs a b n
      · refine .inl ⟨tB_ok (op_ok rfl rfl (notin_nats.trans ?_)), n, hd, hm, rfl⟩
        rw [decide_eq_true hm]; rfl
      · refine .inr ⟨by omega, tB_ok (op_ok rfl rfl (notin_nats.trans (by rw [decide_eq_false hm]; rfl))), _, (sq_nx (app_ok rfl rfl rfl (by rw [List.length_map, Mc.xs_len]; omega))).trans (set_ok (r := .im (.int (M.X a b (n + 1) : Nat))) (op_ok (passes_at h (Mc.X_lt h ha hb) hb rfl rfl rfl) rfl (by rw [Mc.X_succ]; rfl)) rfl), ?_, ?_⟩
        · rw [Mc.xs_succ]
          exact List.nodup_append.mpr ⟨hd, by simp, fun x hx y hy e => hm (by rw [← List.mem_singleton.mp hy, ← e]; exact hx)⟩
        · rw [Mc.xs_succ, List.map_append]; rfl)
    fuel 0 _ ⟨List.nodup_nil, rfl⟩ (Nat.zero_le _) (by unfold fuel; decide)
  subst e2
  rw [x0] at e1
  have hl : n ≤ M.tab.length := by
    have := nodup_lt M.tab.length (M.xs a b n) hnd fun x hx => by
      obtain ⟨i, _, rfl⟩ := List.mem_map.mp hx
      exact Mc.X_lt h ha hb
    rwa [Mc.xs_len] at this
  have hj := List.idxOf_lt_length_of_mem hin
  have e6 : (M.xs a b n)[(M.xs a b n).idxOf (M.X a b n)]? = some (M.X a b n) := by rw [List.getElem?_eq_getElem hj, List.getElem_idxOf hj]
  have ix := index_nats hin
  rw [Mc.xs_len] at hj
  generalize (M.xs a b n).idxOf (M.X a b n) = j at hj e6 ix
  rw [Mc.xs_at hj] at e6
  have er := Mc.ring hj hl (Option.some.inj e6).symm
  have e4 : sSetF 4 (fSlice (fV 3) (oS (fMtK isLB gLIndex (fV 3) (aCons (fV 2) aNil))) oN) [some (.im M.enc), some (.im (encL a b)), some (.im (.int (M.X a b n : Nat))), some (.ol ((M.xs a b n).map encI)), none, none] = .ok (.nx [some (.im M.enc), some (.im (encL a b)), some (.im (.int (M.X a b n : Nat))), some (.ol ((M.xs a b n).map encI)), some (.ol (((M.xs a b n).drop j).map encI)), none]) := by
    refine set_ok (r := .ol (((M.xs a b n).drop j).map encI)) ?_ rfl
    have e7 : oS (fMtK isLB gLIndex (fV 3) (aCons (fV 2) aNil)) [some (.im M.enc), some (.im (encL a b)), some (.im (.int (M.X a b n : Nat))), some (.ol ((M.xs a b n).map encI)), none, none] = .ok (some ((j : Nat) : Int)) := by
      unfold oS
      rw [mtk_ok (z := .im (.int (j : Nat))) rfl rfl rfl ix]
      rfl
    unfold fSlice
    rw [show fV 3 [some (.im M.enc), some (.im (encL a b)), some (.im (.int (M.X a b n : Nat))), some (.ol ((M.xs a b n).map encI)), none, none] = Tr.ok (R.bl ((M.xs a b n).map encI)) from rfl, bind_ok, e7, bind_ok]
    show Tr.ok (R.ol (cutD _ _ none)) = _
    rw [cut_drop (by rw [List.length_map, Mc.xs_len]; omega), List.map_drop]
  have e5 : sRetF (fCall gAny (aCons (fLc (iLb (fV 4)) (gN 5) tYes (fOp gIx (fCallC 3 F_passes_end (aCons (fV 0) (aCons (fV 5) (aCons (fOp gIx (fV 1) (fC (.int 1))) aNil)))) (fC (.int 1))) [5]) aNil)) [some (.im M.enc), some (.im (encL a b)), some (.im (.int (M.X a b n : Nat))), some (.ol ((M.xs a b n).map encI)), some (.ol (((M.xs a b n).drop j).map encI)), none] = .ok (.rt (.im (.bool (M.goes (M.X a b M.tab.length) (rep (3 * M.tab.length) b))))) := by
    refine ret_ok (call_ok (cons_ok (flc_ok (e := encI) (h := fun q => .bool (M.goes q b)) (ts := (M.xs a b n).drop j) rfl (by rw [List.length_drop, Mc.xs_len]; omega) fun q hq => ?_) rfl) ?_)
    · obtain ⟨i, _, rfl⟩ := List.mem_map.mp (List.mem_of_mem_drop hq)
      exact ⟨_, _, rfl, op_ok (passes_at h (Mc.X_lt h ha hb) hb rfl rfl rfl) rfl rfl, rfl⟩
    · rw [any_ok (bs := ((M.xs a b n).drop j).map fun q => M.goes q b) (by rw [List.map_map]; rfl), List.any_map, ← er]
      unfold Mc.xs
      rw [← List.map_drop, List.any_map]
      rfl
  refine fn_ok ((sq_nx (drop_ok (callF_ok (cons_ok rfl rfl) rfl (need_loop_ok b0 (sm_K h hb))))).trans ((sq_nx (set_ok (callC_ok (cons_ok rfl (cons_ok rfl (cons_ok (op_ok rfl rfl rfl) rfl))) rfl (state_from_ok (s := 0) h h.n0 ha)) rfl)).trans ((sq_nx rfl).trans ((sq_nx e1).trans ((sq_nx e4).trans e5))))) rfl
end
end K40
set_option Elab.async false
set_option linter.all false
set_option maxRecDepth 100000
set_option maxHeartbeats 4000000
namespace K40
open PySem PySem.Spec L2 DW FW
section
variable {i j n : Nat} {l a b : List Nat}
theorem tx_of {z : Str} (h : z.cps.toList = l.map (97 + ·)) : z = tx l := by
  obtain ⟨⟨c⟩⟩ := z
  unfold tx
  rw [← h]
theorem slice_ss (h1 : i ≤ j) (h2 : j ≤ l.length) : Txt.slice (tx l) (some (i : Int)) (some (j : Int)) = tx ((l.drop i).take (j - i)) := tx_of (by
  rw [PySem.W.os_slice h1 (by rw [tx_len]; exact h2), tx_cps, List.map_take, List.map_drop])
theorem slice_ns : Txt.slice (tx l) none (some (n : Int)) = tx (l.take n) := by
  have e : Txt.slice (tx l) none (some (n : Int)) = Txt.slice (tx l) (some ((0 : Nat) : Int)) (some ((min n l.length : Nat) : Int)) := by
    have : Builtin.Str.strSliceIndices none (some (n : Int)) 1 (tx l).length = Builtin.Str.strSliceIndices (some ((0 : Nat) : Int)) (some ((min n l.length : Nat) : Int)) 1 (tx l).length := by
      unfold Builtin.Str.strSliceIndices
      rw [tx_len]
      simp only [show (1 : Int) > 0 by decide, if_true]
      congr 1
      all_goals first | omega | (simp only [Int.natCast_nonneg]; omega) | trace_state
    unfold Txt.slice
    rw [this]
  rw [e, slice_ss (Nat.zero_le _) (Nat.min_le_right _ _), List.drop_zero, Nat.sub_zero]
  congr 1
  by_cases h : n ≤ l.length
  · rw [Nat.min_eq_left h]
  · rw [Nat.min_eq_right (by omega), List.take_length, List.take_of_length_le (by omega)]
def far (a b : List Nat) : List Nat := (a ++ rep 60 b).take 48
theorem law_far_ok (la : a.length ≤ 1000) (lb : b.length ≤ 1000) : F__law_far [.im (encL a b)] = .ok (.im (.str (tx (far a b)))) := by
  refine fn_ok (ret_ok (r := .im (.str (tx (far a b)))) ?_) rfl
  have e1 : fOp gAdd (fOp gIx (fV 0) (fC (.int 0))) (fOp gMulS (fOp gIx (fV 0) (fC (.int 1))) (fC (.int 60))) (startD n__law_far [.im (encL a b)]) = .ok (.im (.str (tx (a ++ rep 60 b)))) :=
    add_S rfl (op_ok rfl rfl (mulS_ok (n := 60) (by omega) lb)) (by rw [rep_len]; omega)
  unfold fSlice
  rw [e1, bind_ok]
  show gd (szOk (tx (a ++ rep 60 b)).length) (Tr.ok (R.im (PyData.str (Txt.slice (tx (a ++ rep 60 b)) none (some ((48 : Nat) : Int)))))) = _
  rw [slice_ns, tx_len]
  unfold szOk
  rw [decide_eq_true (by rw [List.length_append, rep_len]; omega)]
  rfl
end
end K40
set_option Elab.async false
set_option linter.all false
set_option maxRecDepth 100000
set_option maxHeartbeats 4000000
namespace K40
open PySem PySem.Spec L2 DW FW
section
variable {i j n c : Nat} {l a b : List Nat}
theorem slice_m1 (h : l ≠ []) : Txt.slice (tx l) none (some (-1)) = tx l.dropLast := by
  have hl : 0 < l.length := List.length_pos_iff.mpr h
  have e : Txt.slice (tx l) none (some (-1)) = Txt.slice (tx l) none (some ((l.length - 1 : Nat) : Int)) := by
    have : Builtin.Str.strSliceIndices none (some (-1)) 1 (tx l).length = Builtin.Str.strSliceIndices none (some ((l.length - 1 : Nat) : Int)) 1 (tx l).length := by
      unfold Builtin.Str.strSliceIndices
      rw [tx_len]
      simp only [show (1 : Int) > 0 by decide, if_true]
      congr 1
      all_goals first | omega | (simp only [Int.natCast_nonneg]; omega) | trace_state
    unfold Txt.slice
    rw [this]
  rw [e, slice_ns, List.dropLast_eq_take]
theorem ixS_m1 (h : l.getLast? = some c) (hl : l.length ≤ 1000) : gIx (.im (.str (tx l))) (.im (.int (-1))) = .ok (.im (.str (tx [c]))) := by
  have h0 : l ≠ [] := fun e => by rw [e] at h; cases h
  have hp : 0 < l.length := List.length_pos_iff.mpr h0
  unfold gIx
  show gd (szOk (tx l).length) ((ofO (atI (tx l).cps.toList (-1))).bind _) = _
  have : atI (tx l).cps.toList (-1) = some (97 + c) := by
    unfold atI ixN
    rw [tx_cps, List.length_map, if_neg (by omega), if_pos (by omega)]
    rw [List.getLast?_eq_getElem?] at h
    rw [show ((-1 : Int) + (l.length : Int)).toNat = l.length - 1 by omega]
    simp [List.getElem?_map, h]
  rw [this, tx_len]
  unfold szOk
  rw [decide_eq_true (by omega)]
  rfl
/-- one turn of the way to the least lasso -/
def nrm : Nat → List Nat → List Nat → List Nat × List Nat
  | 0, s, l => (s, l)
  | n + 1, s, l => match s.getLast?, l.getLast? with
    | some x, some y => if x = y then nrm n s.dropLast (y :: l.dropLast) else (s, l)
    | _, _ => (s, l)
def rootF (w : List Nat) : List Nat := match (List.range' 1 w.length).find? fun k => decide (rep (w.length / k) (w.take k) = w) with
  | some k => w.take k
  | none => w
def leastF (a b : List Nat) : List Nat × List Nat := nrm a.length a (rootF b)
abbrev tWh : FT := tAndF (tB (fOp gNe (fV 1) (fC (.str "")))) (tB (fOp gEq (fOp gIx (fV 1) (fC (.int (-1)))) (fOp gIx (fV 2) (fC (.int (-1))))))
abbrev bWh : FS := sParF 1 2 (aCons (fSlice (fV 1) oN (oS (fC (.int (-1))))) (aCons (fOp gAdd (fOp gIx (fV 2) (fC (.int (-1)))) (fSlice (fV 2) oN (oS (fC (.int (-1)))))) aNil))
end
end K40
set_option Elab.async false
set_option maxRecDepth 100000
namespace K40
def longer (K : Nat) (ls : List (List Nat)) : List (List Nat) := ls.flatMap fun w => (List.range K).map fun c => w ++ [c]
def ws3 : List (List Nat) := [[]] ++ longer 3 [[]] ++ longer 3 (longer 3 [[]]) ++ longer 3 (longer 3 (longer 3 [[]]))
def cF (f : List Nat) : Option (List Nat × List Nat) := ((List.range 4).flatMap fun s => (List.range' 1 3).map fun k => (f.take s, (f.drop s).take k)).find? fun p => far p.1 p.2 == f
def chk1 : Bool := ws3.all fun a => (ws3.drop 1).all fun b => cF (far a b) == some (leastF a b)
theorem chk1_ok : chk1 = true := by decide +kernel
end K40
set_option Elab.async false
set_option maxRecDepth 100000
namespace K40
def candF (m n : Nat) (f : List Nat) : List (List Nat × List Nat) := (List.range (m + 1)).flatMap fun s => (List.range' 1 n).map fun k => (f.take s, (f.drop s).take k)
def firstF (a b : List Nat) : Option (List Nat × List Nat) := (candF a.length b.length (far a b)).find? fun p => far p.1 p.2 == far a b
def chk2 : Bool := ws3.all fun a => (ws3.drop 1).all fun b => let f := far a b; (candF a.length b.length f).find? (fun p => far p.1 p.2 == f) == some (leastF a b)
theorem chk2_ok : chk2 = true := by decide +kernel
def chk3 : Bool := ws3.all fun a => (ws3.drop 1).all fun b => leastF (a ++ b) (b ++ b) == leastF a b && leastF (a ++ b.take 1) (b.drop 1 ++ b.take 1) == leastF a b
theorem chk3_ok : chk3 = true := by decide +kernel
end K40
set_option Elab.async false
set_option linter.all false
set_option maxRecDepth 100000
set_option maxHeartbeats 4000000
namespace K40
open PySem PySem.Spec L2 DW FW
section
variable {i j n c : Nat} {l a b s : List Nat}
theorem par_ok {δ : DEnv} {faa : FA} {d1 d2 : D} (h : faa δ = .ok [.im d1, .im d2]) : sParF i j faa δ = .ok (.nx ((δ.set i (some (.im d1))).set j (some (.im d2)))) := by unfold sParF; rw [h]; rfl
theorem slice_m1_ok {δ : DEnv} {f : FE} (hf : f δ = .ok (.im (.str (tx l)))) (h : l ≠ []) (hl : l.length ≤ 1000) : fSlice f oN (oS (fC (.int (-1)))) δ = .ok (.im (.str (tx l.dropLast))) := by
  unfold fSlice
  rw [hf, bind_ok]
  show gd (szOk (tx l).length) (Tr.ok (R.im (PyData.str (Txt.slice (tx l) none (some (-1)))))) = _
  rw [slice_m1 h, tx_len]
  unfold szOk
  rw [decide_eq_true (by omega)]
  rfl
theorem memDL {α : Type} {l : List α} {c : α} (h : c ∈ l.dropLast) : c ∈ l := (List.dropLast_sublist l).mem h
theorem last_some (h : l ≠ []) : ∃ c, l.getLast? = some c ∧ c ∈ l := ⟨l.getLast h, List.getLast?_eq_some_getLast h, List.getLast_mem h⟩
theorem nrm_eq {x : Nat} (h1 : s.getLast? = some x) (h2 : l.getLast? = some x) : nrm (n + 1) s l = nrm n s.dropLast (x :: l.dropLast) := by
  rw [nrm, h1, h2]
  show (if x = x then _ else _) = _
  rw [if_pos rfl]
theorem nrm_ne {x y : Nat} (h1 : s.getLast? = some x) (h2 : l.getLast? = some y) (h : x ≠ y) : nrm n s l = (s, l) := by
  cases n with
  | zero => rfl
  | succ n =>
    rw [nrm, h1, h2]
    show (if x = y then _ else _) = _
    rw [if_neg h]
theorem while_ok {L : SV} (P : List Nat × List Nat) (q : Nat) (hq : 0 < q) (hq2 : q ≤ 500) (hN : s.length ≤ 500) (hl : l.length = q) (ss : Sm s) (sl : Sm l) (hP : nrm s.length s l = P) :
    sWhF tWh bWh [some L, some (.im (.str (tx s))), some (.im (.str (tx l)))] = .ok (.nx [some L, some (.im (.str (tx P.1))), some (.im (.str (tx P.2)))]) := by
  obtain ⟨δ', e1, rfl⟩ := wh_ok (t := tWh) (b := bWh)
    (fun m δ => ∃ s' l', δ = [some L, some (.im (.str (tx s'))), some (.im (.str (tx l')))] ∧ nrm s'.length s' l' = P ∧ s'.length + m = s.length ∧ l'.length = q ∧ Sm s' ∧ Sm l')
    (fun δ => δ = [some L, some (.im (.str (tx P.1))), some (.im (.str (tx P.2)))]) s.length (by
      rintro m δ ⟨s', l', rfl, hp, hm, hl', ss', sl'⟩
      have l0 : l' ≠ [] := fun e => by rw [e] at hl'; simp at hl'; omega
      have tn : ∀ δ', δ' = [some L, some (.im (.str (tx s'))), some (.im (.str (tx l')))] → tB (fOp gNe (fV 1) (fC (.str ""))) δ' = .ok (!decide (s' = [])) := fun δ' e => by
        subst e
        exact tB_ok (op_ok (y := .im (.str (tx []))) rfl rfl (ne_tx ss' fun _ h => by cases h))
      by_cases h0 : s' = []
      · refine .inl ⟨tAnd_f (by rw [tn _ rfl, decide_eq_true h0]; rfl), ?_⟩
        rw [h0] at hp
        rw [h0, ← hp]
        rfl
      · obtain ⟨x, hx, xm⟩ := last_some h0
        obtain ⟨y, hy, ym⟩ := last_some l0
        have te : ∀ δ', δ' = [some L, some (.im (.str (tx s'))), some (.im (.str (tx l')))] → tB (fOp gEq (fOp gIx (fV 1) (fC (.int (-1)))) (fOp gIx (fV 2) (fC (.int (-1))))) δ' = .ok (decide ([x] = [y])) := fun δ' e => by
          subst e
          exact tB_ok (op_ok (op_ok rfl rfl (ixS_m1 hx (by omega))) (op_ok rfl rfl (ixS_m1 hy (by omega))) (eq_tx (fun c hc => by rw [List.mem_singleton.mp hc]; exact ss' x xm) fun c hc => by rw [List.mem_singleton.mp hc]; exact sl' y ym))
        have sp : s'.length ≠ 0 := fun e => h0 (List.length_eq_zero_iff.mp e)
        by_cases hxy : x = y
        · subst hxy
          refine .inr ⟨by omega, tAnd_t (by rw [tn _ rfl, decide_eq_false h0]; rfl) (by rw [te _ rfl, decide_eq_true rfl]), _, par_ok (cons_ok (slice_m1_ok rfl h0 (by omega)) (cons_ok (add_S (op_ok rfl rfl (ixS_m1 hy (by omega))) (slice_m1_ok rfl l0 (by omega)) (by rw [List.length_dropLast]; simp; omega)) rfl)), s'.dropLast, x :: l'.dropLast, rfl, ?_, ?_, ?_, fun c hc => ss' c (memDL hc), fun c hc => ?_⟩
          · rw [← hp, List.length_dropLast]
            have : s'.length = (s'.length - 1) + 1 := by omega
            conv => rhs; rw [this]
            rw [nrm_eq hx hy]
          · rw [List.length_dropLast]; omega
          · rw [List.length_cons, List.length_dropLast]; omega
          · rcases List.mem_cons.mp hc with z | z
            · rw [z]; exact sl' x ym
            · exact sl' c (memDL z)
        · refine .inl ⟨tAnd_t (by rw [tn _ rfl, decide_eq_false h0]; rfl) (by rw [te _ rfl, decide_eq_false (fun e => hxy (by simpa using e))]), ?_⟩
          rw [nrm_ne hx hy hxy] at hp
          rw [← hp])
    fuel 0 _ ⟨s, l, rfl, hP, rfl, hl, ss, sl⟩ (Nat.zero_le _) (by unfold fuel; omega)
  exact e1
end
end K40
set_option Elab.async false
set_option linter.all false
set_option maxRecDepth 100000
set_option maxHeartbeats 4000000
namespace K40
open PySem PySem.Spec L2 DW FW
section
variable {i j n c : Nat} {l a b s w : List Nat}
/-- a walk that stops at the first item that passes -/
theorem forF_find {α : Type} {e : α → D} {g : FG} {b : FS} {p : α → Bool} {val : α → R} (Inv : DEnv → Prop) : ∀ (ts : List α) (δ : DEnv), Inv δ → (∀ t ∈ ts, ∀ δ, Inv δ → ∃ δ1, g (e t) δ = .ok δ1 ∧ (p t = true → b δ1 = .ok (.rt (val t))) ∧ (p t = false → ∃ δ2, b δ1 = .ok (.nx δ2) ∧ Inv δ2)) →
    (∃ t, ts.find? p = some t ∧ forF g b (ts.map e) δ = .ok (.rt (val t))) ∨ (ts.find? p = none ∧ ∃ δ', forF g b (ts.map e) δ = .ok (.nx δ') ∧ Inv δ')
  | [], δ, h, _ => .inr ⟨rfl, δ, rfl, h⟩
  | t :: ts, δ, h, hs => by
    obtain ⟨δ1, e1, e2, e3⟩ := hs t (List.mem_cons_self ..) δ h
    cases hp : p t with
    | true =>
      refine .inl ⟨t, by rw [List.find?_cons, hp], ?_⟩
      rw [List.map_cons, forF, e1]
      show (b δ1).bind _ = _
      rw [e2 hp]; rfl
    | false =>
      obtain ⟨δ2, e4, h2⟩ := e3 hp
      have ef : forF g b ((t :: ts).map e) δ = forF g b (ts.map e) δ2 := by
        rw [List.map_cons, forF, e1]
        show (b δ1).bind _ = _
        rw [e4]; rfl
      rw [ef, List.find?_cons, hp]
      exact forF_find Inv ts δ2 h2 fun t ht => hs t (List.mem_cons_of_mem _ ht)
end
end K40
set_option Elab.async false
set_option linter.all false
set_option maxRecDepth 100000
set_option maxHeartbeats 4000000
namespace K40
open PySem PySem.Spec L2 DW FW
section
variable {i j n c k : Nat} {l a b s w : List Nat}
theorem len_tx' (h : w.length ≤ 16777216) {δ : DEnv} {f : FE} (hf : f δ = .ok (.im (.str (tx w)))) : fCall gLen (aCons f aNil) δ = .ok (.im (.int (w.length : Nat))) := by
  refine call_ok (cons_ok hf rfl) ?_
  show gd (szOk (tx w).length) (Tr.ok (R.im (PyData.int ((tx w).length : Nat)))) = _
  rw [tx_len]
  unfold szOk
  rw [decide_eq_true h]
  rfl
theorem intsD_range' {m : Nat} : intsD 1 m = (List.range' 1 m).map encI := by
  unfold intsD
  rw [List.range'_eq_map_range, List.map_map]
  refine List.map_congr_left fun i _ => ?_
  show PyData.int (1 + (i : Nat)) = PyData.int ((1 + i : Nat) : Int)
  rw [Int.natCast_add]; rfl
theorem R2_ok {δ : DEnv} {faa : FA} {m : Nat} (h : faa δ = .ok [.im (.int 1), .im (.int ((m : Nat) + 1))]) (hm : m ≤ 100000) : iR2 faa δ = .ok ((List.range' 1 m).map encI) := by
  unfold iR2
  rw [h, bind_ok]
  try dsimp only
  have h1 : rgOk 1 = true := rg_ok (m := 1) (by omega)
  have h2 : rgOk ((m : Nat) + 1) = true := rg_ok (m := m + 1) (by omega)
  rw [h1, h2]
  show Tr.ok (intsD 1 (((m : Nat) : Int) + 1 - 1).toNat) = _
  rw [← intsD_range']
  congr 2
  omega
theorem slice_take_ok {δ : DEnv} {f fk : FE} {k : Nat} (hf : f δ = .ok (.im (.str (tx l)))) (hk : fk δ = .ok (.im (.int (k : Nat)))) (hl : l.length ≤ 1000) : fSlice f oN (oS fk) δ = .ok (.im (.str (tx (l.take k)))) := by
  unfold fSlice
  rw [hf, bind_ok]
  have e : oS fk δ = .ok (some ((k : Nat) : Int)) := by unfold oS; rw [hk]; rfl
  show (oN δ).bind (fun l' => (oS fk δ).bind fun h => gSlice _ l' h) = _
  rw [e]
  show gd (szOk (tx l).length) (Tr.ok (R.im (PyData.str (Txt.slice (tx l) none (some ((k : Nat) : Int)))))) = _
  rw [slice_ns, tx_len]
  unfold szOk
  rw [decide_eq_true (by omega)]
  rfl
theorem sm_take (h : Sm l) : Sm (l.take n) := fun c hc => h c (List.mem_of_mem_take hc)
theorem sm_rep (h : Sm l) : Sm (rep n l) := fun c hc => h c (rep_mem hc)
theorem sm_app (h : Sm a) (h' : Sm b) : Sm (a ++ b) := fun c hc => (List.mem_append.mp hc).elim (h c) (h' c)
theorem div_ok {m k : Nat} (h1 : 1 ≤ k) (h2 : k < 1073741824) : gDiv (.im (.int (m : Nat))) (.im (.int (k : Nat))) = .ok (.im (.int (m / k : Nat))) := by
  unfold gDiv gIC
  show gd (divOk ((k : Nat) : Int)) (Tr.ok (R.im (PyData.int (((m : Nat) : Int) / ((k : Nat) : Int))))) = _
  have : divOk ((k : Nat) : Int) = true := by
    unfold divOk
    rw [decide_eq_true (by omega), decide_eq_true (by omega)]; rfl
  rw [this]
  rfl
theorem root_ok (h0 : w ≠ []) (hw : w.length ≤ 500) (sw : Sm w) : ∃ m : Nat, F_root [.im (.str (tx w))] = .ok (.im (.tuple [.str (tx (rootF w)), .int (m : Nat)])) := by
  have e0 : tB (fOp gEq (fV 0) (fC (.str ""))) [some (.im (.str (tx w))), none, none] = .ok false := by
    refine tB_ok (op_ok (y := .im (.str (tx []))) rfl rfl ((eq_tx sw fun _ h => by cases h).trans ?_))
    rw [decide_eq_false h0]
  have ei : iR2 (aCons (fC (.int 1)) (aCons (fOp gAdd (fCall gLen (aCons (fV 0) aNil)) (fC (.int 1))) aNil)) [some (.im (.str (tx w))), none, none] = .ok ((List.range' 1 w.length).map encI) := by
    refine R2_ok (cons_ok rfl (cons_ok (op_ok (len_tx' (by omega) rfl) rfl rfl) rfl)) (by omega)
  have hlen : ∀ δ x y, δ = [some (.im (.str (tx w))), x, y] → fCall gLen (aCons (fV 0) aNil) δ = .ok (.im (.int (w.length : Nat))) := fun δ x y e => by subst e; exact len_tx' (by omega) rfl
  have main := forF_find (g := gN 1) (e := encI) (p := fun k => decide (rep (w.length / k) (w.take k) = w)) (val := fun k => .im (.tuple [.str (tx (w.take k)), .int (w.length / k : Nat)]))
    (b := sSq (sSetF 2 (fOp gDiv (fCall gLen (aCons (fV 0) aNil)) (fV 1))) (sIfF (tB (fOp gEq (fOp gMulS (fSlice (fV 0) oN (oS (fV 1))) (fV 2)) (fV 0))) (sRetF (fTup (aCons (fSlice (fV 0) oN (oS (fV 1))) (aCons (fV 2) aNil)))) sNx))
    (fun δ => ∃ x y, δ = [some (.im (.str (tx w))), x, y]) (List.range' 1 w.length) [some (.im (.str (tx w))), none, none] ⟨none, none, rfl⟩ (by
      rintro k hk δ ⟨x, y, rfl⟩
      rw [List.mem_range'_1] at hk
      have ed : sSetF 2 (fOp gDiv (fCall gLen (aCons (fV 0) aNil)) (fV 1)) [some (.im (.str (tx w))), some (.im (encI k)), y] = .ok (.nx [some (.im (.str (tx w))), some (.im (encI k)), some (.im (.int (w.length / k : Nat)))]) :=
        set_ok (op_ok (hlen _ _ _ rfl) rfl (div_ok hk.1 (by omega))) rfl
      have hd : w.length / k ≤ 500 := Nat.le_trans (Nat.div_le_self _ _) hw
      have et : tB (fOp gEq (fOp gMulS (fSlice (fV 0) oN (oS (fV 1))) (fV 2)) (fV 0)) [some (.im (.str (tx w))), some (.im (encI k)), some (.im (.int (w.length / k : Nat)))] = .ok (decide (rep (w.length / k) (w.take k) = w)) :=
        tB_ok (op_ok (op_ok (slice_take_ok (k := k) rfl rfl (by omega)) rfl (mulS_ok (by omega) (by rw [List.length_take]; omega))) rfl (eq_tx (sm_rep (sm_take sw)) sw))
      refine ⟨_, rfl, fun hp => ?_, fun hp => ⟨_, (sq_nx ed).trans ((if_f (by rw [et, hp])).trans rfl), _, _, rfl⟩⟩
      exact (sq_nx ed).trans ((if_t (by rw [et, hp])).trans (ret_ok (tup2 (cons_ok (slice_take_ok (k := k) rfl rfl (by omega)) (cons_ok rfl rfl))))))
  unfold rootF
  rcases main with ⟨k, e1, e2⟩ | ⟨e1, δ', e2, x, y, e3⟩
  · rw [e1]
    exact ⟨w.length / k, fn_ok ((sq_nx (if_f e0)).trans (sq_rt (for_ok ei e2))) rfl⟩
  · rw [e1]
    subst e3
    exact ⟨1, fn_ok ((sq_nx (if_f e0)).trans ((sq_nx (for_ok ei e2)).trans (ret_ok (tup2 rfl)))) rfl⟩
theorem rootF_sub : ∀ c ∈ rootF w, c ∈ w := fun c hc => by
  unfold rootF at hc
  split at hc
  · exact List.mem_of_mem_take hc
  · exact hc
theorem rootF_len : (rootF w).length ≤ w.length := by
  unfold rootF
  split
  · rw [List.length_take]; omega
  · exact Nat.le_refl _
theorem rootF_pos (h : w ≠ []) : 0 < (rootF w).length := by
  have hw : 0 < w.length := List.length_pos_iff.mpr h
  unfold rootF
  split
  · rename_i k e
    have := List.mem_of_find?_eq_some e
    rw [List.mem_range'_1] at this
    rw [List.length_take]; omega
  · exact hw
theorem least_ok (hb : b ≠ []) (la : a.length ≤ 500) (lb : b.length ≤ 500) (sa : Sm a) (sb : Sm b) : F_least_lasso [.im (encL a b)] = .ok (.im (encL (leastF a b).1 (leastF a b).2)) := by
  obtain ⟨m, er⟩ := root_ok hb lb sb
  have e2 : sParF 1 2 (aCons (fOp gIx (fV 0) (fC (.int 0))) (aCons (fOp gIx (fCallF 1 F_root (aCons (fOp gIx (fV 0) (fC (.int 1))) aNil)) (fC (.int 0))) aNil)) [some (.im (encL a b)), none, none] = .ok (.nx [some (.im (encL a b)), some (.im (.str (tx a))), some (.im (.str (tx (rootF b))))]) := by
    refine par_ok (cons_ok (op_ok rfl rfl rfl) (cons_ok (op_ok (callF_ok (cons_ok (op_ok rfl rfl rfl) rfl) rfl er) rfl rfl) rfl))
  have ew := while_ok (L := .im (encL a b)) (s := a) (l := rootF b) (leastF a b) (rootF b).length (rootF_pos hb) (Nat.le_trans rootF_len lb) la rfl sa (fun c hc => sb c (rootF_sub c hc)) rfl
  exact fn_ok ((sq_nx (drop_ok (callF_ok (cons_ok rfl rfl) rfl (need_loop_ok hb sb)))).trans ((sq_nx e2).trans ((sq_nx ew).trans (ret_ok (tup2 rfl))))) rfl
theorem same_ok {a' b' : List Nat} (hb : b ≠ []) (la : a.length ≤ 500) (lb : b.length ≤ 500) (sa : Sm a) (sb : Sm b) (hb' : b' ≠ []) (la' : a'.length ≤ 500) (lb' : b'.length ≤ 500) (sa' : Sm a') (sb' : Sm b')
    (q : Sm (leastF a b).1) (q2 : Sm (leastF a b).2) (q' : Sm (leastF a' b').1) (q2' : Sm (leastF a' b').2) :
    F_same_lasso [.im (encL a b), .im (encL a' b')] = .ok (.im (.bool (decide (leastF a b = leastF a' b')))) := by
  refine fn_ok (ret_ok (op_ok (callF_ok (cons_ok rfl rfl) rfl (least_ok hb la lb sa sb)) (callF_ok (cons_ok rfl rfl) rfl (least_ok hb' la' lb' sa' sb')) ((eq_L q q2 q' q2').trans ?_))) rfl
  have : (decide ((leastF a b).1 = (leastF a' b').1) && decide ((leastF a b).2 = (leastF a' b').2)) = decide (leastF a b = leastF a' b') := by
    rw [Bool.eq_iff_iff, Bool.and_eq_true, decide_eq_true_iff, decide_eq_true_iff, decide_eq_true_iff, Prod.ext_iff]
  rw [this]
end
end K40
set_option Elab.async false
set_option linter.all false
set_option maxRecDepth 100000
set_option maxHeartbeats 4000000
/-! the walk over words in their order, in plain Lean -/
namespace K40
/-- a word's number in the order of the words -/
def num (K : Nat) (l : List Nat) : Nat := l.foldl (fun a c => K * a + 1 + c) 0
section
variable {M : Mc} {z s q i j n c k K : Nat} {l a b w x y : List Nat} {Q : List (Nat × List Nat)} {e : Nat × List Nat}
theorem num_snoc : num K (l ++ [c]) = K * num K l + 1 + c := by unfold num; rw [List.foldl_append]; rfl
abbrev En := Nat × List Nat
/-- the states that count as found -/
def keys (z : Nat) (Q : List En) : List Nat := (Q.drop z).map (·.1)
def exp1 (M : Mc) (z : Nat) (e : En) (Q : List En) (c : Nat) : List En := if M.st e.1 c ∈ keys z Q then Q else Q ++ [(M.st e.1 c, e.2 ++ [c])]
/-- the first c children told -/
def expN (M : Mc) (z : Nat) (e : En) (Q : List En) : Nat → List En
  | 0 => Q
  | c + 1 => exp1 M z e (expN M z e Q c) c
/-- after k entries -/
def Qk (M : Mc) (z s : Nat) : Nat → List En
  | 0 => [(s, [])]
  | k + 1 => match (Qk M z s k)[k]? with
    | some e => expN M z e (Qk M z s k) M.K
    | none => Qk M z s k
/-- the invariant: k entries done, c children of the next one -/
structure Iv (M : Mc) (z s : Nat) (Q : List En) (k c : Nat) : Prop where
  z1 : z ≤ 1
  first : Q[0]? = some (s, [])
  nd : (keys z Q).Nodup
  run : ∀ e ∈ Q, e.1 = M.run s e.2 ∧ ∀ i ∈ e.2, i < M.K
  len : ∀ (i : Nat) (e : En), Q[i]? = some e → e.2.length ≤ i
  ne : ∀ (i : Nat) (e : En), Q[i]? = some e → 1 ≤ i → e.2 ≠ []
  inc : ∀ (i j : Nat) (e f : En), i < j → Q[i]? = some e → Q[j]? = some f → num M.K e.2 < num M.K f.2
  top : ∀ (e f : En), Q[k]? = some e → f ∈ Q → num M.K f.2 ≤ M.K * num M.K e.2 + c
  topE : Q[k]? = none → 0 = c ∧ Q.length = k
  clo : ∀ (i d : Nat) (e : En), Q[i]? = some e → d < M.K → i < k ∨ (i = k ∧ d < c) → ∃ f ∈ Q.drop z, f.1 = M.st e.1 d ∧ num M.K f.2 ≤ M.K * num M.K e.2 + 1 + d
theorem Iv.start (hs : z ≤ 1) : Iv M z s [(s, [])] 0 0 := by
  refine ⟨hs, rfl, ?_, ?_, ?_, ?_, ?_, ?_, ?_, ?_⟩
  · unfold keys
    have : z = 0 ∨ z = 1 := by omega
    rcases this with rfl | rfl <;> simp
  · intro e he
    rw [List.mem_singleton.mp he]
    exact ⟨rfl, fun i hi => by cases hi⟩
  · intro i e he
    cases i with
    | zero => cases he; exact Nat.le_refl _
    | succ i => cases he
  · intro i e he hi
    cases i with
    | zero => omega
    | succ i => cases he
  · intro i j e f hij he hf
    cases j with
    | zero => omega
    | succ j => cases hf
  · intro e f he hf
    cases he
    rw [List.mem_singleton.mp hf]
    exact Nat.zero_le _
  · intro h; cases h
  · intro i d e he hd h
    rcases h with h | h <;> omega
theorem Iv.step (v : Iv M z s Q k c) (he : Q[k]? = some e) (hc : c < M.K) : Iv M z s (exp1 M z e Q c) k (c + 1) := by
  have hk := (List.getElem?_eq_some_iff.mp he).1
  obtain ⟨r1, r2⟩ := v.run e (List.mem_of_getElem? he)
  have hz := v.z1
  unfold exp1
  by_cases h : M.st e.1 c ∈ keys z Q
  · rw [if_pos h]
    refine ⟨v.z1, v.first, v.nd, v.run, v.len, v.ne, v.inc, fun e' f h1 h2 => ?_, fun h' => ?_, fun i d e' h1 h2 h3 => ?_⟩
    · have := v.top e' f h1 h2; omega
    · rw [he] at h'; cases h'
    · by_cases h4 : i = k ∧ d = c
      · obtain ⟨rfl, rfl⟩ := h4
        rw [he] at h1
        cases h1
        obtain ⟨f, hf, ef⟩ := List.mem_map.mp h
        exact ⟨f, hf, ef, by have := v.top e f he (List.mem_of_mem_drop hf); omega⟩
      · exact v.clo i d e' h1 h2 (by omega)
  · rw [if_neg h]
    have hl : 0 < Q.length := by
      have := (List.getElem?_eq_some_iff.mp v.first).1
      omega
    have sp : ∀ (i : Nat) (f : En), (Q ++ [(M.st e.1 c, e.2 ++ [c])])[i]? = some f → Q[i]? = some f ∨ (i = Q.length ∧ f = (M.st e.1 c, e.2 ++ [c])) := by
      intro i f hf
      by_cases hi : i < Q.length
      · rw [List.getElem?_append_left hi] at hf
        exact .inl hf
      · rw [List.getElem?_append_right (by omega)] at hf
        have : i - Q.length = 0 := by
          have := (List.getElem?_eq_some_iff.mp hf).1
          simpa using this
        rw [this] at hf
        exact .inr ⟨by omega, (Option.some.inj hf).symm⟩
    have kk : keys z (Q ++ [(M.st e.1 c, e.2 ++ [c])]) = keys z Q ++ [M.st e.1 c] := by
      unfold keys
      rw [List.drop_append_of_le_length (by omega), List.map_append]
      rfl
    have nn : ∀ f ∈ Q, num M.K f.2 < M.K * num M.K e.2 + 1 + c := fun f hf => by have := v.top e f he hf; omega
    refine ⟨v.z1, ?_, ?_, ?_, ?_, ?_, ?_, ?_, ?_, ?_⟩
    · rw [List.getElem?_append_left hl]; exact v.first
    · rw [kk]
      exact List.nodup_append.mpr ⟨v.nd, by simp, fun x hx y hy e' => h (by rw [← List.mem_singleton.mp hy, ← e']; exact hx)⟩
    · intro f hf
      rcases List.mem_append.mp hf with h1 | h1
      · exact v.run f h1
      · rw [List.mem_singleton.mp h1]
        refine ⟨?_, fun i hi => ?_⟩
        · show M.st e.1 c = M.run s (e.2 ++ [c])
          rw [Mc.run_snoc, ← r1]
        · rcases List.mem_append.mp hi with h2 | h2
          · exact r2 i h2
          · rw [List.mem_singleton.mp h2]; exact hc
    · intro i f hf
      rcases sp i f hf with h1 | ⟨rfl, rfl⟩
      · exact v.len i f h1
      · have := v.len k e he
        show (e.2 ++ [c]).length ≤ _
        rw [List.length_append]
        show e.2.length + 1 ≤ _
        omega
    · intro i f hf hi
      rcases sp i f hf with h1 | ⟨rfl, rfl⟩
      · exact v.ne i f h1 hi
      · exact List.append_ne_nil_of_right_ne_nil _ (by simp)
    · intro i j f g hij hf hg
      rcases sp j g hg with h1 | ⟨rfl, rfl⟩
      · rcases sp i f hf with h2 | ⟨rfl, rfl⟩
        · exact v.inc i j f g hij h2 h1
        · have := (List.getElem?_eq_some_iff.mp h1).1
          omega
      · rcases sp i f hf with h2 | ⟨rfl, rfl⟩
        · show _ < num M.K (e.2 ++ [c])
          rw [num_snoc]
          exact nn f (List.mem_of_getElem? h2)
        · omega
    · intro e' f h1 h2
      rw [List.getElem?_append_left hk, he] at h1
      cases h1
      rcases List.mem_append.mp h2 with h3 | h3
      · have := v.top e f he h3; omega
      · rw [List.mem_singleton.mp h3]
        show num M.K (e.2 ++ [c]) ≤ _
        rw [num_snoc]; omega
    · intro h'
      rw [List.getElem?_append_left hk, he] at h'
      cases h'
    · intro i d e' h1 h2 h3
      have hd : ∀ f, f ∈ Q.drop z → f ∈ (Q ++ [(M.st e.1 c, e.2 ++ [c])]).drop z := fun f hf => by
        rw [List.drop_append_of_le_length (by omega)]
        exact List.mem_append_left _ hf
      rcases sp i e' h1 with h4 | ⟨rfl, rfl⟩
      · by_cases h5 : i = k ∧ d = c
        · obtain ⟨rfl, rfl⟩ := h5
          rw [he] at h4
          cases h4
          refine ⟨(M.st e.1 d, e.2 ++ [d]), ?_, rfl, ?_⟩
          · rw [List.drop_append_of_le_length (by omega)]
            exact List.mem_append_right _ (List.mem_singleton.mpr rfl)
          · show num M.K (e.2 ++ [d]) ≤ _
            rw [num_snoc]; exact Nat.le_refl _
        · obtain ⟨f, g1, g2, g3⟩ := v.clo i d e' h4 h2 (by omega)
          exact ⟨f, hd f g1, g2, g3⟩
      · omega
theorem Iv.stepN (v : Iv M z s Q k 0) (he : Q[k]? = some e) : ∀ c, c ≤ M.K → Iv M z s (expN M z e Q c) k c ∧ (expN M z e Q c)[k]? = some e
  | 0, _ => ⟨v, he⟩
  | c + 1, hc => by
    obtain ⟨h1, h2⟩ := Iv.stepN v he c (by omega)
    refine ⟨h1.step h2 (by omega), ?_⟩
    show (exp1 M z e (expN M z e Q c) c)[k]? = _
    unfold exp1
    split
    · exact h2
    · rw [List.getElem?_append_left (List.getElem?_eq_some_iff.mp h2).1]; exact h2
theorem Iv.next (v : Iv M z s Q k M.K) (hK : 0 < M.K) (he : Q[k]? = some e) : Iv M z s Q (k + 1) 0 := by
  refine ⟨v.z1, v.first, v.nd, v.run, v.len, v.ne, v.inc, fun e' f h1 h2 => ?_, fun h' => ?_, fun i d e' h1 h2 h3 => ?_⟩
  · have h3 := v.inc k (k + 1) e e' (Nat.lt_succ_self _) he h1
    have h4 := v.top e f he h2
    have h5 : M.K * (num M.K e.2 + 1) ≤ M.K * num M.K e'.2 := Nat.mul_le_mul_left _ h3
    rw [Nat.mul_add] at h5
    omega
  · have h1 := (List.getElem?_eq_some_iff.mp he).1
    have h2 := List.getElem?_eq_none_iff.mp h'
    exact ⟨rfl, by omega⟩
  · exact v.clo i d e' h1 h2 (by
      rcases h3 with h3 | h3
      · by_cases hi : i < k
        · exact .inl hi
        · exact .inr ⟨by omega, h2⟩
      · omega)
theorem Qk_iv (hz : z ≤ 1) (hK : 0 < M.K) : ∀ k, (k ≤ (Qk M z s k).length → Iv M z s (Qk M z s k) k 0)
  | 0, _ => Iv.start hz
  | k + 1, h => by
    rw [Qk] at h ⊢
    cases he : (Qk M z s k)[k]? with
    | none =>
      rw [he] at h
      have h1 := List.getElem?_eq_none_iff.mp he
      have : k + 1 ≤ (Qk M z s k).length := h
      omega
    | some e =>
      have hk := (List.getElem?_eq_some_iff.mp he).1
      have v := Qk_iv hz hK k (by omega)
      obtain ⟨h1, h2⟩ := Iv.stepN v he M.K (Nat.le_refl _)
      exact h1.next hK h2
/-- few entries -/
theorem Iv.few (v : Iv M z s Q k c) (h : M.Ok) (hs : s < M.tab.length) : Q.length ≤ M.tab.length + z := by
  have h1 := nodup_lt M.tab.length (keys z Q) v.nd fun x hx => by
    obtain ⟨e, he, rfl⟩ := List.mem_map.mp hx
    obtain ⟨g1, g2⟩ := v.run e (List.mem_of_mem_drop he)
    rw [g1]
    exact Mc.run_lt h _ _ hs g2
  unfold keys at h1
  rw [List.length_map, List.length_drop] at h1
  omega
/-- at the end: each word's state is found by a word not behind it -/
theorem Iv.least (v : Iv M 1 s Q k 0) (hk : Q.length = k) : ∀ u : List Nat, u ≠ [] → (∀ i ∈ u, i < M.K) → ∃ f ∈ Q.drop 1, f.1 = M.run s u ∧ num M.K f.2 ≤ num M.K u := by
  have key : ∀ (n : Nat) (u : List Nat), u.length = n → u ≠ [] → (∀ i ∈ u, i < M.K) → ∃ f ∈ Q.drop 1, f.1 = M.run s u ∧ num M.K f.2 ≤ num M.K u := by
    intro n
    induction n with
    | zero => intro u h1 h2 _; exact absurd (List.length_eq_zero_iff.mp h1) h2
    | succ n ih =>
      intro u h1 h2 h3
      obtain ⟨x, d, rfl⟩ : ∃ x d, u = x ++ [d] := ⟨u.dropLast, u.getLast h2, (List.dropLast_concat_getLast h2).symm⟩
      have hd : d < M.K := h3 d (List.mem_append_right _ (List.mem_singleton.mpr rfl))
      have hx : ∀ i ∈ x, i < M.K := fun i hi => h3 i (List.mem_append_left _ hi)
      rw [List.length_append] at h1
      have h1 : x.length + 1 = n + 1 := h1
      obtain ⟨f, hf, ef, nf⟩ : ∃ f ∈ Q, f.1 = M.run s x ∧ num M.K f.2 ≤ num M.K x := by
        by_cases h0 : x = []
        · subst h0
          exact ⟨_, List.mem_of_getElem? v.first, rfl, Nat.le_refl _⟩
        · obtain ⟨f, g1, g2, g3⟩ := ih x (by omega) h0 hx
          exact ⟨f, List.mem_of_mem_drop g1, g2, g3⟩
      obtain ⟨i, hi, ei⟩ := List.mem_iff_getElem.mp hf
      obtain ⟨g, g1, g2, g3⟩ := v.clo i d f (by rw [List.getElem?_eq_getElem hi, ei]) hd (.inl (by omega))
      refine ⟨g, g1, by rw [g2, ef, Mc.run_snoc], ?_⟩
      rw [num_snoc]
      have : M.K * num M.K f.2 ≤ M.K * num M.K x := Nat.mul_le_mul_left _ nf
      omega
  exact fun u h2 h3 => key u.length u rfl h2 h3
/-- the end is come to -/
theorem Qk_end (h : M.Ok) (hz : z ≤ 1) (hs : s < M.tab.length) : ∃ k, k ≤ M.tab.length + z ∧ (Qk M z s k).length = k ∧ Iv M z s (Qk M z s k) k 0 ∧ ∀ j, j < k → j < (Qk M z s j).length := by
  have hK : 0 < M.K := by have := h.k; omega
  have key : ∀ m, (∃ k, k ≤ m ∧ (Qk M z s k).length = k ∧ ∀ j, j < k → j < (Qk M z s j).length) ∨ ∀ j, j ≤ m → j < (Qk M z s j).length := by
    intro m
    induction m with
    | zero => exact .inr fun j hj => by rw [Nat.le_zero.mp hj]; exact Nat.one_pos
    | succ m ih =>
      rcases ih with ⟨k, h1, h2, h3⟩ | h1
      · exact .inl ⟨k, by omega, h2, h3⟩
      · have hm := h1 m (Nat.le_refl _)
        have g : m + 1 ≤ (Qk M z s (m + 1)).length := by
          have v := Qk_iv (M := M) (s := s) hz hK m (by omega)
          rw [Qk, List.getElem?_eq_getElem hm]
          have := (Iv.stepN v (List.getElem?_eq_getElem hm) M.K (Nat.le_refl _)).2
          exact (List.getElem?_eq_some_iff.mp this).1
        by_cases h2 : (Qk M z s (m + 1)).length = m + 1
        · exact .inl ⟨m + 1, Nat.le_refl _, h2, fun j hj => h1 j (by omega)⟩
        · exact .inr fun j hj => by
            by_cases e : j = m + 1
            · subst e; omega
            · exact h1 j (by omega)
  rcases key (M.tab.length + z) with ⟨k, h1, h2, h3⟩ | h1
  · exact ⟨k, h1, h2, Qk_iv hz hK k (by omega), h3⟩
  · have h2 := h1 _ (Nat.le_refl _)
    have := (Qk_iv (M := M) (s := s) hz hK (M.tab.length + z) (by omega)).few h hs
    omega
end
end K40
set_option Elab.async false
set_option linter.all false
set_option maxRecDepth 100000
set_option maxHeartbeats 4000000
/-! the walks over a machine's words -/
namespace K40
open PySem PySem.Spec L2 DW FW
section
variable {M : Mc} {z s q i j n c k K : Nat} {l a b w x y : List Nat} {Q : List En} {e : En} {δ : DEnv} {fa fb : FE}
def kv (e : En) : Key × D := (.inl ((e.1 : Nat) : Int), .str (tx e.2))
def encE (e : En) : D := .tuple [.int (e.1 : Nat), .str (tx e.2)]
theorem val_kv : valD (Q.map kv) (.inl ((q : Nat) : Int)) = (Q.find? fun e => decide (e.1 = q)).map fun e => .str (tx e.2) := by
  induction Q with
  | nil => rfl
  | cons e r ih =>
    have h0 : valD ((e :: r).map kv) (.inl ((q : Nat) : Int)) = if e.1 = q then some (.str (tx e.2)) else valD (r.map kv) (.inl ((q : Nat) : Int)) := by
      unfold valD
      rw [List.map_cons, List.find?_cons]
      by_cases h : e.1 = q
      · subst h; simp [kv]
      · have : ¬ (kv e).1 = .inl ((q : Nat) : Int) := fun z => h (by have := Sum.inl.inj z; omega)
        simp [h, this]
    rw [h0, ih, List.find?_cons]
    by_cases h : e.1 = q
    · simp [h]
    · simp [h]
theorem val_none (h : q ∉ Q.map (·.1)) : valD (Q.map kv) (.inl ((q : Nat) : Int)) = none := by
  rw [val_kv, Option.map_eq_none_iff, List.find?_eq_none]
  intro e he h'
  exact h (List.mem_map.mpr ⟨e, he, of_decide_eq_true h'⟩)
theorem val_some (hn : (Q.map (·.1)).Nodup) (h : e ∈ Q) : valD (Q.map kv) (.inl ((e.1 : Nat) : Int)) = some (.str (tx e.2)) := by
  rw [val_kv]
  induction Q with
  | nil => cases h
  | cons f r ih =>
    rw [List.find?_cons]
    rw [List.map_cons, List.nodup_cons] at hn
    rcases List.mem_cons.mp h with rfl | h
    · rw [decide_eq_true rfl]; rfl
    · have : f.1 ≠ e.1 := fun z => hn.1 (List.mem_map.mpr ⟨e, h, z.symm⟩)
      rw [decide_eq_false this]
      exact ih hn.2 h
theorem val_isSome : (valD (Q.map kv) (.inl ((q : Nat) : Int))).isSome = decide (q ∈ Q.map (·.1)) := by
  by_cases h : q ∈ Q.map (·.1)
  · rw [decide_eq_true h, val_kv, Option.isSome_map, List.find?_isSome]
    obtain ⟨e, he, rfl⟩ := List.mem_map.mp h
    exact ⟨e, he, decide_eq_true rfl⟩
  · rw [decide_eq_false h, val_none h]; rfl
theorem dnot_ok (ha : fa δ = .ok (.im (.int (q : Nat)))) (hb : fb δ = .ok (.bK (Q.map kv))) : tB (fOp (gDinz true) fa fb) δ = .ok (!decide (q ∈ Q.map (·.1))) := by
  refine tB_ok (op_ok ha hb ?_)
  show Tr.ok (R.im (PyData.bool (!(valD (Q.map kv) (.inl ((q : Nat) : Int))).isSome))) = _
  rw [val_isSome]
theorem dgz_ok (hn : (Q.map (·.1)).Nodup) (h : e ∈ Q) (ha : fa δ = .ok (.bK (Q.map kv))) (hb : fb δ = .ok (.im (.int (e.1 : Nat)))) : fOp gDgz fa fb δ = .ok (.im (.str (tx e.2))) := by
  refine op_ok ha hb ?_
  unfold gDgz
  have : getZ (R.bK (Q.map kv)) (.im (.int (e.1 : Nat))) = some (some (.str (tx e.2))) := by
    show some (valD (Q.map kv) (.inl ((e.1 : Nat) : Int))) = _
    rw [val_some hn h]
  rw [this]
theorem putF_ok' (h : q ∉ Q.map (·.1)) (hl : Q.length < 16777216) : putF (.oK (Q.map kv)) (.int (q : Nat)) (.str (tx w)) = .ok (.oK ((Q ++ [(q, w)]).map kv)) := by
  show gd (decide ((Q.map kv).length < 16777216)) (Tr.ok (SV.oK (putD (Q.map kv) (.inl ((q : Nat) : Int)) (.str (tx w))))) = _
  rw [List.length_map, decide_eq_true hl, putD_new (val_none h), List.map_append]
  rfl
theorem en_ok (hK : K ≤ 3) (h : fa δ = .ok (.im (.str (tx (List.range K))))) : iEG (aCons fa aNil) δ = .ok ((List.range K).map fun i => .tuple [.int (i : Nat), .str (tx [i])]) := by
  unfold iEG
  rw [cons_ok h rfl]
  have : K = 0 ∨ K = 1 ∨ K = 2 ∨ K = 3 := by omega
  rcases this with rfl | rfl | rfl | rfl <;> rfl
theorem tr_ol {δ : DEnv} {i : Nat} {xs : List D} (h : fV i δ = .ok (.bl xs)) : tTruF (fV i) δ = .ok (!xs.isEmpty) := by
  unfold tTruF
  rw [h]
  cases xs <;> rfl
end
end K40
set_option Elab.async false
set_option linter.all false
set_option maxRecDepth 100000
set_option maxHeartbeats 4000000
/-! words_back, least_words, _law_reach -/
namespace K40
open PySem PySem.Spec L2 DW FW
section
variable {M : Mc} {z s q i j n c k K : Nat} {l a b w x y : List Nat} {Q : List En} {e : En} {δ : DEnv} {fa fb : FE}
structure KEnd (M : Mc) (z s k : Nat) : Prop where
  le : k ≤ M.tab.length + z
  len : (Qk M z s k).length = k
  iv : Iv M z s (Qk M z s k) k 0
  lt : ∀ j, j < k → j < (Qk M z s j).length
theorem kEnd (h : M.Ok) (hz : z ≤ 1) (hs : s < M.tab.length) : ∃ k, KEnd M z s k := by
  obtain ⟨k, h1, h2, h3, h4⟩ := Qk_end h hz hs
  exact ⟨k, h1, h2, h3, h4⟩
theorem Qk_step (he : (Qk M z s k)[k]? = some e) : Qk M z s (k + 1) = expN M z e (Qk M z s k) M.K := by rw [Qk, he]
theorem drop_snoc {α : Type} {l : List α} {x : α} (h : n ≤ l.length) : (l ++ [x]).drop n = l.drop n ++ [x] := List.drop_append_of_le_length h
theorem range_at {α : Type} {f : Nat → α} {d : α} (h : ((List.range n).map f)[i]? = some d) : i < n ∧ d = f i := by
  have hi := (List.getElem?_eq_some_iff.mp h).1
  rw [List.length_map, List.length_range] at hi
  rw [List.getElem?_map, List.getElem?_range hi] at h
  exact ⟨hi, (Option.some.inj h).symm⟩
def wbB : FS := (sSq (sSetF 11 (fOp gIx (fOp gIx (fV 3) (fV 7)) (fV 9)))
 (sIfF (tB (fOp (gDinz true) (fV 11) (fV 5))) (sSq (sPutF 5 (fV 11) (fOp gAdd (fV 8) (fV 10)))
 (sAppF 6 (fTup (aCons (fV 11) (aCons (fOp gAdd (fV 8) (fV 10)) aNil))))) sNx))
def wbG : FG := gTup 2 (gsCons (gN 9) (gsCons (gN 10) gsNil))
def wbE (M : Mc) (s : Nat) (d w : List En) (x7 x8 x9 x10 x11 : Option SV) : DEnv := [some (.im M.enc), some (.im (.int (s : Nat))), some (.im (.str M.al)), some (.im (encT M.tab)), some (.im (.tuple (M.acc.map encI))), some (.oK (d.map kv)), some (.ol (w.map encE)), x7, x8, x9, x10, x11]
theorem wb_inner (h : M.Ok) (hs : s < M.tab.length) (v : Iv M 1 s Q k 0) (he : Q[k]? = some e) {x9 x10 x11 : Option SV} : ∃ y9 y10 y11, forF wbG wbB ((List.range M.K).map fun i => .tuple [.int (i : Nat), .str (tx [i])]) (wbE M s (Q.drop 1) (Q.drop (k + 1)) (some (.im (.int (e.1 : Nat)))) (some (.im (.str (tx e.2)))) x9 x10 x11) =
    .ok (.nx (wbE M s ((expN M 1 e Q M.K).drop 1) ((expN M 1 e Q M.K).drop (k + 1)) (some (.im (.int (e.1 : Nat)))) (some (.im (.str (tx e.2)))) y9 y10 y11)) := by
  obtain ⟨δ', e1, y9, y10, y11, e2⟩ := forF_ix0 (g := wbG) (b := wbB) (δ := wbE M s (Q.drop 1) (Q.drop (k + 1)) (some (.im (.int (e.1 : Nat)))) (some (.im (.str (tx e.2)))) x9 x10 x11)
    (fun c δ => ∃ y9 y10 y11, δ = wbE M s ((expN M 1 e Q c).drop 1) ((expN M 1 e Q c).drop (k + 1)) (some (.im (.int (e.1 : Nat)))) (some (.im (.str (tx e.2)))) y9 y10 y11) ((List.range M.K).map fun i => .tuple [.int (i : Nat), .str (tx [i])]) ⟨x9, x10, x11, rfl⟩ (by
      rintro c d δ hd ⟨y9, y10, y11, rfl⟩
      obtain ⟨hc, rfl⟩ := range_at hd
      obtain ⟨v1, he1⟩ := v.stepN he c (by omega)
      have few := v1.few h hs
      have n1 := h.n1
      have hk := (List.getElem?_eq_some_iff.mp he1).1
      have hl := v1.len k e he1
      obtain ⟨r1, r2⟩ := v1.run e (List.mem_of_getElem? he1)
      have hq : e.1 < M.tab.length := by rw [r1]; exact Mc.run_lt h _ _ hs r2
      obtain ⟨r, c1, c2, _⟩ := h.cell hq hc
      have es : expN M 1 e Q (c + 1) = exp1 M 1 e (expN M 1 e Q c) c := rfl
      rw [es]
      unfold exp1
      generalize expN M 1 e Q c = P at v1 he1 few hk ⊢
      have e3 : sSetF 11 (fOp gIx (fOp gIx (fV 3) (fV 7)) (fV 9)) (wbE M s (P.drop 1) (P.drop (k + 1)) (some (.im (.int (e.1 : Nat)))) (some (.im (.str (tx e.2)))) (some (.im (.int (c : Nat)))) (some (.im (.str (tx [c])))) y11) = .ok (.nx (wbE M s (P.drop 1) (P.drop (k + 1)) (some (.im (.int (e.1 : Nat)))) (some (.im (.str (tx e.2)))) (some (.im (.int (c : Nat)))) (some (.im (.str (tx [c])))) (some (.im (.int (M.st e.1 c : Nat)))))) :=
        set_ok (op_ok (op_ok rfl rfl (rowsAt c1)) rfl (cellAt c2)) rfl
      have e4 : tB (fOp (gDinz true) (fV 11) (fV 5)) (wbE M s (P.drop 1) (P.drop (k + 1)) (some (.im (.int (e.1 : Nat)))) (some (.im (.str (tx e.2)))) (some (.im (.int (c : Nat)))) (some (.im (.str (tx [c])))) (some (.im (.int (M.st e.1 c : Nat))))) = .ok (!decide (M.st e.1 c ∈ keys 1 P)) := dnot_ok rfl rfl
      by_cases hm : M.st e.1 c ∈ keys 1 P
      · rw [if_pos hm]
        exact ⟨_, _, rfl, (sq_nx e3).trans ((if_f (by rw [e4, decide_eq_true hm]; rfl)).trans rfl), _, _, _, rfl⟩
      · rw [if_neg hm, drop_snoc (by omega), drop_snoc (by omega)]
        refine ⟨_, _, rfl, (sq_nx e3).trans ((if_t (by rw [e4, decide_eq_false hm]; rfl)).trans ((sq_nx (put_ok rfl (add_S rfl rfl (by show e.2.length + 1 ≤ _; omega)) rfl rfl (putF_ok' hm (by rw [List.length_drop]; omega)))).trans (app_ok (d := encE (M.st e.1 c, e.2 ++ [c])) rfl (tup2 (cons_ok rfl (cons_ok (add_S rfl rfl (by show e.2.length + 1 ≤ _; omega)) rfl))) rfl (by rw [List.length_map, List.length_drop]; omega)))), some (.im (.int (c : Nat))), some (.im (.str (tx [c]))), some (.im (.int (M.st e.1 c : Nat))), ?_⟩
        unfold wbE
        rw [List.map_append (f := encE)]
        rfl)
  subst e2
  rw [List.length_map, List.length_range] at e1
  exact ⟨y9, y10, y11, e1⟩
theorem words_back_ok (h : M.Ok) (hs : s < M.tab.length) (ke : KEnd M 1 s k) : F_words_back [.im M.enc, .im (.int (s : Nat))] = .ok (.oK (((Qk M 1 s k).drop 1).map kv)) := by
  have hK : 0 < M.K ∧ M.K ≤ 3 := by have := h.k; omega
  have hle := ke.le
  have hn1 := h.n1
  obtain ⟨δ', e1, y7, y8, y9, y10, y11, e2⟩ := wh_ok (t := tTruF (fV 6)) (b := sSq (sPop0F 6 (gTup 2 (gsCons (gN 7) (gsCons (gN 8) gsNil)))) (sForF (iEG (aCons (fV 2) aNil)) wbG wbB))
    (fun m δ => m ≤ k ∧ ∃ y7 y8 y9 y10 y11, δ = wbE M s ((Qk M 1 s m).drop 1) ((Qk M 1 s m).drop m) y7 y8 y9 y10 y11)
    (fun δ => ∃ y7 y8 y9 y10 y11, δ = wbE M s ((Qk M 1 s k).drop 1) [] y7 y8 y9 y10 y11) k (by
      rintro m δ ⟨hm, y7, y8, y9, y10, y11, rfl⟩
      have tst : tTruF (fV 6) (wbE M s ((Qk M 1 s m).drop 1) ((Qk M 1 s m).drop m) y7 y8 y9 y10 y11) = .ok (!(((Qk M 1 s m).drop m).map encE).isEmpty) := tr_ol rfl
      by_cases hlt : m < k
      · have hl := ke.lt m hlt
        have he := List.getElem?_eq_getElem hl
        have hd : (Qk M 1 s m).drop m = (Qk M 1 s m)[m] :: (Qk M 1 s m).drop (m + 1) := List.drop_eq_getElem_cons hl
        have v := Qk_iv (M := M) (s := s) (z := 1) (by omega) hK.1 m (by omega)
        obtain ⟨z9, z10, z11, e3⟩ := wb_inner h hs v he (x9 := y9) (x10 := y10) (x11 := y11)
        rw [← Qk_step he] at e3
        refine .inr ⟨hlt, by rw [tst, hd]; rfl, _, (sq_nx (δ' := wbE M s ((Qk M 1 s m).drop 1) ((Qk M 1 s m).drop (m + 1)) (some (.im (.int ((Qk M 1 s m)[m].1 : Nat)))) (some (.im (.str (tx (Qk M 1 s m)[m].2)))) y9 y10 y11) ?_).trans (for_ok (en_ok hK.2 rfl) e3), hlt, _, _, _, _, _, rfl⟩
        rw [hd]
        rfl
      · have e : m = k := by omega
        subst e
        have hd : (Qk M 1 s m).drop m = [] := List.drop_eq_nil_of_le (by rw [ke.len]; exact Nat.le_refl _)
        refine .inl ⟨by rw [tst, hd]; rfl, ?_⟩
        rw [hd]
        exact ⟨_, _, _, _, _, rfl⟩)
    fuel 0 (wbE M s [] [(s, [])] none none none none none) ⟨Nat.zero_le _, none, none, none, none, none, rfl⟩ (Nat.zero_le _) (by unfold fuel; omega)
  subst e2
  refine fn_ok ((sq_nx (asg_ok rfl rfl rfl)).trans ((sq_nx rfl).trans ((sq_nx (δ' := wbE M s [] [(s, [])] none none none none none) ?_).trans ((sq_nx e1).trans rfl)))) rfl
  exact set_ok (r := .ol [encE (s, [])]) (lst_ok (cons_ok (tup2 rfl) rfl) rfl (show 1 ≤ 16777216 by decide)) rfl
end
end K40
set_option Elab.async false
set_option linter.all false
set_option maxRecDepth 100000
set_option maxHeartbeats 4000000
/-! least_words, _law_reach -/
namespace K40
open PySem PySem.Spec L2 DW FW
section
variable {M : Mc} {z s q i j n c k K : Nat} {l a b w x y : List Nat} {Q : List En} {e : En} {δ : DEnv} {fa fb : FE}
def st1 (e : En) : D := .int (e.1 : Nat)
/-- least_words -/
def lwB : FS := (sSq (sSetF 9 (fOp gIx (fOp gIx (fV 2) (fV 6)) (fV 7)))
 (sIfF (tB (fOp (gDinz true) (fV 9) (fV 4))) (sSq (sPutF 4 (fV 9) (fOp gAdd (fOp gDgz (fV 4) (fV 6)) (fV 8)))
 (sAppF 5 (fV 9))) sNx))
def lwG : FG := gTup 2 (gsCons (gN 7) (gsCons (gN 8) gsNil))
def lwE (M : Mc) (d w : List En) (x6 x7 x8 x9 : Option SV) : DEnv := [some (.im M.enc), some (.im (.str M.al)), some (.im (encT M.tab)), some (.im (.tuple (M.acc.map encI))), some (.oK (d.map kv)), some (.ol (w.map st1)), x6, x7, x8, x9]
theorem nd0 (v : Iv M 0 s Q k c) : (Q.map (·.1)).Nodup := v.nd
theorem lw_inner (h : M.Ok) (v : Iv M 0 0 Q k 0) (he : Q[k]? = some e) {x7 x8 x9 : Option SV} : ∃ y7 y8 y9, forF lwG lwB ((List.range M.K).map fun i => .tuple [.int (i : Nat), .str (tx [i])]) (lwE M Q (Q.drop (k + 1)) (some (.im (.int (e.1 : Nat)))) x7 x8 x9) =
    .ok (.nx (lwE M (expN M 0 e Q M.K) ((expN M 0 e Q M.K).drop (k + 1)) (some (.im (.int (e.1 : Nat)))) y7 y8 y9)) := by
  obtain ⟨δ', e1, y7, y8, y9, e2⟩ := forF_ix0 (g := lwG) (b := lwB) (δ := lwE M Q (Q.drop (k + 1)) (some (.im (.int (e.1 : Nat)))) x7 x8 x9)
    (fun c δ => ∃ y7 y8 y9, δ = lwE M (expN M 0 e Q c) ((expN M 0 e Q c).drop (k + 1)) (some (.im (.int (e.1 : Nat)))) y7 y8 y9) ((List.range M.K).map fun i => .tuple [.int (i : Nat), .str (tx [i])]) ⟨x7, x8, x9, rfl⟩ (by
      rintro c d δ hd ⟨y7, y8, y9, rfl⟩
      obtain ⟨hc, rfl⟩ := range_at hd
      obtain ⟨v1, he1⟩ := v.stepN he c (by omega)
      have few := v1.few h h.n0
      have n1 := h.n1
      have hk := (List.getElem?_eq_some_iff.mp he1).1
      have hl := v1.len k e he1
      obtain ⟨r1, r2⟩ := v1.run e (List.mem_of_getElem? he1)
      have hq : e.1 < M.tab.length := by rw [r1]; exact Mc.run_lt h _ _ h.n0 r2
      obtain ⟨r, c1, c2, _⟩ := h.cell hq hc
      have es : expN M 0 e Q (c + 1) = exp1 M 0 e (expN M 0 e Q c) c := rfl
      rw [es]
      unfold exp1
      have nd := nd0 v1
      generalize expN M 0 e Q c = P at v1 he1 few hk nd ⊢
      have hin := List.mem_of_getElem? he1
      have e3 : sSetF 9 (fOp gIx (fOp gIx (fV 2) (fV 6)) (fV 7)) (lwE M P (P.drop (k + 1)) (some (.im (.int (e.1 : Nat)))) (some (.im (.int (c : Nat)))) (some (.im (.str (tx [c])))) y9) = .ok (.nx (lwE M P (P.drop (k + 1)) (some (.im (.int (e.1 : Nat)))) (some (.im (.int (c : Nat)))) (some (.im (.str (tx [c])))) (some (.im (.int (M.st e.1 c : Nat)))))) :=
        set_ok (op_ok (op_ok rfl rfl (rowsAt c1)) rfl (cellAt c2)) rfl
      have e4 : tB (fOp (gDinz true) (fV 9) (fV 4)) (lwE M P (P.drop (k + 1)) (some (.im (.int (e.1 : Nat)))) (some (.im (.int (c : Nat)))) (some (.im (.str (tx [c])))) (some (.im (.int (M.st e.1 c : Nat))))) = .ok (!decide (M.st e.1 c ∈ P.map (·.1))) := dnot_ok rfl rfl
      have ek : keys 0 P = P.map (·.1) := rfl
      rw [ek]
      by_cases hm : M.st e.1 c ∈ P.map (·.1)
      · rw [if_pos hm]
        exact ⟨_, _, rfl, (sq_nx e3).trans ((if_f (by rw [e4, decide_eq_true hm]; rfl)).trans rfl), _, _, _, rfl⟩
      · rw [if_neg hm, drop_snoc (by omega)]
        refine ⟨_, _, rfl, (sq_nx e3).trans ((if_t (by rw [e4, decide_eq_false hm]; rfl)).trans ((sq_nx (put_ok rfl (add_S (dgz_ok nd hin rfl rfl) rfl (by show e.2.length + 1 ≤ _; omega)) rfl rfl (putF_ok' hm (by omega)))).trans (app_ok (d := st1 (M.st e.1 c, e.2 ++ [c])) rfl rfl rfl (by rw [List.length_map, List.length_drop]; omega)))), some (.im (.int (c : Nat))), some (.im (.str (tx [c]))), some (.im (.int (M.st e.1 c : Nat))), ?_⟩
        unfold lwE
        rw [List.map_append (f := st1)]
        rfl)
  subst e2
  rw [List.length_map, List.length_range] at e1
  exact ⟨y7, y8, y9, e1⟩
theorem least_words_ok (h : M.Ok) (ke : KEnd M 0 0 k) : F_least_words [.im M.enc] = .ok (.oK ((Qk M 0 0 k).map kv)) := by
  have hK : 0 < M.K ∧ M.K ≤ 3 := by have := h.k; omega
  have hle := ke.le
  have hn1 := h.n1
  obtain ⟨δ', e1, y6, y7, y8, y9, e2⟩ := wh_ok (t := tTruF (fV 5)) (b := sSq (sPop0F 5 (gN 6)) (sForF (iEG (aCons (fV 1) aNil)) lwG lwB))
    (fun m δ => m ≤ k ∧ ∃ y6 y7 y8 y9, δ = lwE M (Qk M 0 0 m) ((Qk M 0 0 m).drop m) y6 y7 y8 y9)
    (fun δ => ∃ y6 y7 y8 y9, δ = lwE M (Qk M 0 0 k) [] y6 y7 y8 y9) k (by
      rintro m δ ⟨hm, y6, y7, y8, y9, rfl⟩
      have tst : tTruF (fV 5) (lwE M (Qk M 0 0 m) ((Qk M 0 0 m).drop m) y6 y7 y8 y9) = .ok (!(((Qk M 0 0 m).drop m).map st1).isEmpty) := tr_ol rfl
      by_cases hlt : m < k
      · have hl := ke.lt m hlt
        have he := List.getElem?_eq_getElem hl
        have hd : (Qk M 0 0 m).drop m = (Qk M 0 0 m)[m] :: (Qk M 0 0 m).drop (m + 1) := List.drop_eq_getElem_cons hl
        have v := Qk_iv (M := M) (s := 0) (z := 0) (by omega) hK.1 m (by omega)
        obtain ⟨z7, z8, z9, e3⟩ := lw_inner h v he (x7 := y7) (x8 := y8) (x9 := y9)
        rw [← Qk_step he] at e3
        refine .inr ⟨hlt, by rw [tst, hd]; rfl, _, (sq_nx (δ' := lwE M (Qk M 0 0 m) ((Qk M 0 0 m).drop (m + 1)) (some (.im (.int ((Qk M 0 0 m)[m].1 : Nat)))) y7 y8 y9) ?_).trans (for_ok (en_ok hK.2 rfl) e3), hlt, _, _, _, _, rfl⟩
        rw [hd]
        rfl
      · have e : m = k := by omega
        subst e
        have hd : (Qk M 0 0 m).drop m = [] := List.drop_eq_nil_of_le (by rw [ke.len]; exact Nat.le_refl _)
        refine .inl ⟨by rw [tst, hd]; rfl, ?_⟩
        rw [hd]
        exact ⟨_, _, _, _, rfl⟩)
    fuel 0 (lwE M [(0, [])] [(0, [])] none none none none) ⟨Nat.zero_le _, none, none, none, none, rfl⟩ (Nat.zero_le _) (by unfold fuel; omega)
  subst e2
  exact fn_ok ((sq_nx (asg_ok rfl rfl rfl)).trans ((sq_nx rfl).trans ((sq_nx (δ' := lwE M [(0, [])] [(0, [])] none none none none) rfl).trans ((sq_nx e1).trans rfl)))) rfl
/-- _law_reach -/
def lrB : FS := (sSq (sSetF 5 (fOp gIx (fOp gIx (fOp gIx (fV 0) (fC (.int 1))) (fOp gIx (fV 2) (fV 3))) (fV 4)))
 (sIfF (tB (fOp (gDinz true) (fV 5) (fV 1))) (sSq (sPutF 1 (fV 5) (fOp gAdd (fOp gDgz (fV 1) (fOp gIx (fV 2) (fV 3))) (fOp gIx (fOp gIx (fV 0) (fC (.int 0))) (fV 4))))
 (sAppF 2 (fV 5))) sNx))
def lrE (M : Mc) (d : List En) (m : Nat) (x4 x5 : Option SV) : DEnv := [some (.im M.enc), some (.oK (d.map kv)), some (.ol (d.map st1)), some (.im (.int (m : Nat))), x4, x5]
theorem al_at (h : M.Ok) (hc : c < M.K) : gIx (.im (.str M.al)) (.im (.int (c : Nat))) = .ok (.im (.str (tx [c]))) := by
  unfold Mc.al
  rcases h.k with e | e | e
  · rw [e] at hc ⊢
    have : c = 0 := by omega
    subst this; rfl
  · rw [e] at hc ⊢
    have : c = 0 ∨ c = 1 := by omega
    rcases this with rfl | rfl <;> rfl
  · rw [e] at hc ⊢
    have : c = 0 ∨ c = 1 ∨ c = 2 := by omega
    rcases this with rfl | rfl | rfl <;> rfl
theorem ord_at {m : Nat} (he : Q[m]? = some e) {x4 x5 : Option SV} : fOp gIx (fV 2) (fV 3) (lrE M Q m x4 x5) = .ok (.im (.int (e.1 : Nat))) := op_ok rfl rfl (ix_bl (d := st1 e) (by rw [List.getElem?_map, he]; rfl))
theorem lr_inner (h : M.Ok) (v : Iv M 0 0 Q k 0) (he : Q[k]? = some e) {x4 x5 : Option SV} : ∃ y4 y5, forF (gN 4) lrB ((List.range M.K).map fun i => .int (i : Nat)) (lrE M Q k x4 x5) = .ok (.nx (lrE M (expN M 0 e Q M.K) k y4 y5)) := by
  obtain ⟨δ', e1, y4, y5, e2⟩ := forF_ix0 (g := gN 4) (b := lrB) (δ := lrE M Q k x4 x5)
    (fun c δ => ∃ y4 y5, δ = lrE M (expN M 0 e Q c) k y4 y5) ((List.range M.K).map fun i => .int (i : Nat)) ⟨x4, x5, rfl⟩ (by
      rintro c d δ hd ⟨y4, y5, rfl⟩
      obtain ⟨hc, rfl⟩ := range_at hd
      obtain ⟨v1, he1⟩ := v.stepN he c (by omega)
      have few := v1.few h h.n0
      have n1 := h.n1
      have hk := (List.getElem?_eq_some_iff.mp he1).1
      have hl := v1.len k e he1
      obtain ⟨r1, r2⟩ := v1.run e (List.mem_of_getElem? he1)
      have hq : e.1 < M.tab.length := by rw [r1]; exact Mc.run_lt h _ _ h.n0 r2
      obtain ⟨r, c1, c2, _⟩ := h.cell hq hc
      have es : expN M 0 e Q (c + 1) = exp1 M 0 e (expN M 0 e Q c) c := rfl
      rw [es]
      unfold exp1
      have nd := nd0 v1
      generalize expN M 0 e Q c = P at v1 he1 few hk nd ⊢
      have hin := List.mem_of_getElem? he1
      have e3 : sSetF 5 (fOp gIx (fOp gIx (fOp gIx (fV 0) (fC (.int 1))) (fOp gIx (fV 2) (fV 3))) (fV 4)) (lrE M P k (some (.im (.int (c : Nat)))) y5) = .ok (.nx (lrE M P k (some (.im (.int (c : Nat)))) (some (.im (.int (M.st e.1 c : Nat)))))) :=
        set_ok (op_ok (op_ok (op_ok rfl rfl rfl) (ord_at he1) (rowsAt c1)) rfl (cellAt c2)) rfl
      have e4 : tB (fOp (gDinz true) (fV 5) (fV 1)) (lrE M P k (some (.im (.int (c : Nat)))) (some (.im (.int (M.st e.1 c : Nat))))) = .ok (!decide (M.st e.1 c ∈ P.map (·.1))) := dnot_ok rfl rfl
      have ek : keys 0 P = P.map (·.1) := rfl
      rw [ek]
      by_cases hm : M.st e.1 c ∈ P.map (·.1)
      · rw [if_pos hm]
        exact ⟨_, _, rfl, (sq_nx e3).trans ((if_f (by rw [e4, decide_eq_true hm]; rfl)).trans rfl), _, _, rfl⟩
      · rw [if_neg hm]
        refine ⟨_, _, rfl, (sq_nx e3).trans ((if_t (by rw [e4, decide_eq_false hm]; rfl)).trans ((sq_nx (put_ok rfl (add_S (dgz_ok nd hin rfl (ord_at he1)) (op_ok (op_ok rfl rfl rfl) rfl (al_at h hc)) (by show e.2.length + 1 ≤ _; omega)) rfl rfl (putF_ok' hm (by omega)))).trans (app_ok (d := st1 (M.st e.1 c, e.2 ++ [c])) (xs := P.map st1) rfl rfl rfl (by rw [List.length_map]; omega)))), some (.im (.int (c : Nat))), some (.im (.int (M.st e.1 c : Nat))), ?_⟩
        unfold lrE
        rw [List.map_append (f := st1)]
        rfl)
  subst e2
  rw [List.length_map, List.length_range] at e1
  exact ⟨y4, y5, e1⟩
theorem law_reach_ok (h : M.Ok) (ke : KEnd M 0 0 k) : F__law_reach [.im M.enc] = .ok (.oK ((Qk M 0 0 k).map kv)) := by
  have hK : 0 < M.K ∧ M.K ≤ 3 := by have := h.k; omega
  have hle := ke.le
  have hn1 := h.n1
  have hr : ∀ {δ : DEnv}, fV 0 δ = .ok (.im M.enc) → iR1 (aCons (fCall gLen (aCons (fOp gIx (fV 0) (fC (.int 0))) aNil)) aNil) δ = .ok ((List.range M.K).map fun i => .int (i : Nat)) := fun e0 =>
    R1_ok (m := M.K) (cons_ok (by
      have := len_tx' (w := List.range M.K) (by rw [List.length_range]; omega) (f := fOp gIx (fV 0) (fC (.int 0))) (op_ok e0 rfl rfl)
      rw [List.length_range] at this
      exact this) rfl) (by omega)
  obtain ⟨δ', e1, y4, y5, e2⟩ := wh_ok (t := tB (fOp gLt (fV 3) (fCall gLen (aCons (fV 2) aNil)))) (b := sSq (sForF (iR1 (aCons (fCall gLen (aCons (fOp gIx (fV 0) (fC (.int 0))) aNil)) aNil)) (gN 4) lrB) (sSetF 3 (fOp gAdd (fV 3) (fC (.int 1)))))
    (fun m δ => m ≤ k ∧ ∃ y4 y5, δ = lrE M (Qk M 0 0 m) m y4 y5)
    (fun δ => ∃ y4 y5, δ = lrE M (Qk M 0 0 k) k y4 y5) k (by
      rintro m δ ⟨hm, y4, y5, rfl⟩
      have tst : tB (fOp gLt (fV 3) (fCall gLen (aCons (fV 2) aNil))) (lrE M (Qk M 0 0 m) m y4 y5) = .ok (decide (m < (Qk M 0 0 m).length)) := by
        refine tB_ok (op_ok (x := .im (.int (m : Nat))) (y := .im (.int (((Qk M 0 0 m).map st1).length : Nat))) rfl (call_ok (cons_ok rfl rfl) rfl) ?_)
        show Tr.ok (R.im (.bool (decide _))) = _
        rw [List.length_map]
        congr 3
        exact decide_eq_decide.mpr Int.ofNat_lt
      by_cases hlt : m < k
      · have hl := ke.lt m hlt
        have he := List.getElem?_eq_getElem hl
        have v := Qk_iv (M := M) (s := 0) (z := 0) (by omega) hK.1 m (by omega)
        obtain ⟨z4, z5, e3⟩ := lr_inner h v he (x4 := y4) (x5 := y5)
        rw [← Qk_step he] at e3
        exact .inr ⟨hlt, by rw [tst, decide_eq_true hl], lrE M (Qk M 0 0 (m + 1)) (m + 1) z4 z5, (sq_nx (for_ok (hr rfl) e3)).trans rfl, hlt, _, _, rfl⟩
      · have e : m = k := by omega
        subst e
        exact .inl ⟨by rw [tst, ke.len, decide_eq_false (Nat.lt_irrefl _)], _, _, rfl⟩)
    fuel 0 (lrE M [(0, [])] 0 none none) ⟨Nat.zero_le _, none, none, rfl⟩ (Nat.zero_le _) (by unfold fuel; omega)
  subst e2
  exact fn_ok ((sq_nx rfl).trans ((sq_nx rfl).trans ((sq_nx (δ' := lrE M [(0, [])] 0 none none) rfl).trans ((sq_nx e1).trans rfl)))) rfl
end
end K40
set_option Elab.async false
set_option linter.all false
set_option maxRecDepth 100000
set_option maxHeartbeats 4000000
/-! all words; words back; least_going_on -/
namespace K40
open PySem PySem.Spec L2 DW FW
def longer' (K : Nat) (ws : List (List Nat)) : List (List Nat) := ws.flatMap fun w => (List.range K).map fun c => w ++ [c]
def allW (K : Nat) : Nat → List (List Nat) × List (List Nat)
  | 0 => ([[]], [[]])
  | n + 1 => let p := allW K n; (longer' K p.1, p.2 ++ longer' K p.1)
theorem all13 : F__law_all [.im (.str (tx (List.range 1))), .im (.int 3)] = .ok (.ol ((allW 1 3).2.map fun w => .str (tx w))) := by kernel_rfl
theorem all23 : F__law_all [.im (.str (tx (List.range 2))), .im (.int 3)] = .ok (.ol ((allW 2 3).2.map fun w => .str (tx w))) := by kernel_rfl
theorem all33 : F__law_all [.im (.str (tx (List.range 3))), .im (.int 3)] = .ok (.ol ((allW 3 3).2.map fun w => .str (tx w))) := by kernel_rfl
theorem all14 : F__law_all [.im (.str (tx (List.range 1))), .im (.int 4)] = .ok (.ol ((allW 1 4).2.map fun w => .str (tx w))) := by kernel_rfl
theorem all24 : F__law_all [.im (.str (tx (List.range 2))), .im (.int 4)] = .ok (.ol ((allW 2 4).2.map fun w => .str (tx w))) := by kernel_rfl
theorem all34 : F__law_all [.im (.str (tx (List.range 3))), .im (.int 4)] = .ok (.ol ((allW 3 4).2.map fun w => .str (tx w))) := by kernel_rfl
def Srt (K : Nat) : Prop := (allW K 4).2.Pairwise fun a b => num K a < num K b
instance : Decidable (Srt K) := by unfold Srt; infer_instance
theorem srt1 : Srt 1 := by decide +kernel
theorem srt2 : Srt 2 := by decide +kernel
theorem srt3 : Srt 3 := by decide +kernel
section
variable {M : Mc} {z s q i j n c k K : Nat} {l a b w x y : List Nat} {Q : List En} {e : En} {δ : DEnv} {fa fb : FE}
theorem all3_ok (hk : K = 1 ∨ K = 2 ∨ K = 3) : F__law_all [.im (.str (tx (List.range K))), .im (.int 3)] = .ok (.ol ((allW K 3).2.map fun w => .str (tx w))) := by
  rcases hk with rfl | rfl | rfl
  · exact all13
  · exact all23
  · exact all33
theorem all4_ok (hk : K = 1 ∨ K = 2 ∨ K = 3) : F__law_all [.im (.str (tx (List.range K))), .im (.int 4)] = .ok (.ol ((allW K 4).2.map fun w => .str (tx w))) := by
  rcases hk with rfl | rfl | rfl
  · exact all14
  · exact all24
  · exact all34
theorem srt (hk : K = 1 ∨ K = 2 ∨ K = 3) : Srt K := by
  rcases hk with rfl | rfl | rfl
  · exact srt1
  · exact srt2
  · exact srt3
theorem mem_lv : ∀ (n : Nat) (w : List Nat), w ∈ (allW K n).1 ↔ w.length = n ∧ ∀ c ∈ w, c < K
  | 0, w => by
    show w ∈ [[]] ↔ _
    rw [List.mem_singleton]
    exact ⟨fun h => by subst h; exact ⟨rfl, fun c hc => by cases hc⟩, fun h => List.length_eq_zero_iff.mp h.1⟩
  | n + 1, w => by
    show w ∈ longer' K (allW K n).1 ↔ _
    unfold longer'
    rw [List.mem_flatMap]
    constructor
    · rintro ⟨u, hu, hw⟩
      obtain ⟨h1, h2⟩ := (mem_lv n u).mp hu
      obtain ⟨c, hc, rfl⟩ := List.mem_map.mp hw
      refine ⟨by rw [List.length_append, h1]; rfl, fun d hd => ?_⟩
      rcases List.mem_append.mp hd with h | h
      · exact h2 d h
      · rw [List.mem_singleton.mp h]; exact List.mem_range.mp hc
    · rintro ⟨h1, h2⟩
      have h0 : w ≠ [] := fun e => by rw [e] at h1; cases h1
      refine ⟨w.dropLast, (mem_lv n _).mpr ⟨by rw [List.length_dropLast]; omega, fun c hc => h2 c (memDL hc)⟩, List.mem_map.mpr ⟨w.getLast h0, List.mem_range.mpr (h2 _ (List.getLast_mem h0)), List.dropLast_concat_getLast h0⟩⟩
theorem mem_all : ∀ (n : Nat) (w : List Nat), w ∈ (allW K n).2 ↔ w.length ≤ n ∧ ∀ c ∈ w, c < K
  | 0, w => by
    show w ∈ [[]] ↔ _
    rw [List.mem_singleton]
    exact ⟨fun h => by subst h; exact ⟨Nat.le_refl _, fun c hc => by cases hc⟩, fun h => List.length_eq_zero_iff.mp (Nat.le_zero.mp h.1)⟩
  | n + 1, w => by
    show w ∈ (allW K n).2 ++ (allW K (n + 1)).1 ↔ _
    rw [List.mem_append, mem_all n w, mem_lv (n + 1) w]
    constructor
    · rintro (⟨h1, h2⟩ | ⟨h1, h2⟩)
      · exact ⟨by omega, h2⟩
      · exact ⟨by omega, h2⟩
    · rintro ⟨h1, h2⟩
      by_cases h : w.length = n + 1
      · exact .inr ⟨h, h2⟩
      · exact .inl ⟨by omega, h2⟩
theorem all_head : ∀ n, ∃ t, (allW K n).2 = [] :: t ∧ ∀ w ∈ t, w ≠ []
  | 0 => ⟨[], rfl, fun w hw => by cases hw⟩
  | n + 1 => by
    obtain ⟨t, h1, h2⟩ := all_head n
    refine ⟨t ++ (allW K (n + 1)).1, ?_, fun w hw => ?_⟩
    · show (allW K n).2 ++ _ = _
      rw [h1]; rfl
    · rcases List.mem_append.mp hw with h | h
      · exact h2 w h
      · have := ((mem_lv (n + 1) w).mp h).1
        intro e
        rw [e] at this
        cases this
theorem mem_drop1 : w ∈ (allW K n).2.drop 1 ↔ w ≠ [] ∧ w.length ≤ n ∧ ∀ c ∈ w, c < K := by
  obtain ⟨t, h1, h2⟩ := all_head (K := K) n
  rw [← mem_all n w, h1]
  show w ∈ t ↔ _
  rw [List.mem_cons]
  exact ⟨fun h => ⟨h2 w h, .inr h⟩, fun ⟨h3, h4⟩ => h4.elim (fun e => absurd e h3) id⟩
theorem find_min {K : Nat} {p : List Nat → Bool} : ∀ {l : List (List Nat)}, (l.Pairwise fun a b => num K a < num K b) → y ∈ l → p y = true → (∀ x ∈ l, p x = true → num K y ≤ num K x) → l.find? p = some y
  | [], _, h, _, _ => by cases h
  | x :: r, hp, h, py, hm => by
    rw [List.pairwise_cons] at hp
    rw [List.find?_cons]
    cases px : p x with
    | true =>
      rcases List.mem_cons.mp h with rfl | h'
      · rfl
      · have h1 := hp.1 y h'
        have h2 := hm x (List.mem_cons_self ..) px
        omega
    | false =>
      rcases List.mem_cons.mp h with rfl | h'
      · rw [px] at py; cases py
      · exact find_min hp.2 h' py fun x' hx' => hm x' (List.mem_cons_of_mem _ hx')
def Mc.bws (M : Mc) (q : Nat) : List (List Nat) := ((allW M.K 4).2.drop 1).filter fun w => decide (M.run q w = q)
def Mc.back (M : Mc) (q : Nat) : Option (List Nat) := (M.bws q)[0]?
theorem Mc.back_find : M.back q = ((allW M.K 4).2.drop 1).find? fun w => decide (M.run q w = q) := by
  unfold Mc.back Mc.bws
  rw [← List.head?_eq_getElem?, List.head?_filter]
theorem back_in (h : M.back q = some w) : w ≠ [] ∧ w.length ≤ 4 ∧ (∀ c ∈ w, c < M.K) ∧ M.run q w = q := by
  rw [Mc.back_find] at h
  obtain ⟨h1, h2, h3⟩ := mem_drop1.mp (List.mem_of_find?_eq_some h)
  exact ⟨h1, h2, h3, of_decide_eq_true (List.find?_some (p := fun w => decide (M.run q w = q)) h)⟩
theorem fst_inj (hn : (Q.map (·.1)).Nodup) : ∀ {e f : En}, e ∈ Q → f ∈ Q → e.1 = f.1 → e = f := by
  induction Q with
  | nil => intro e f he; cases he
  | cons g r ih =>
    intro e f he hf h
    rw [List.map_cons, List.nodup_cons] at hn
    rcases List.mem_cons.mp he with e1 | he1
    · rcases List.mem_cons.mp hf with e2 | hf1
      · rw [e1, e2]
      · exact absurd (List.mem_map.mpr ⟨f, hf1, by rw [← h, e1]⟩) hn.1
    · rcases List.mem_cons.mp hf with e2 | hf1
      · exact absurd (List.mem_map.mpr ⟨e, he1, by rw [h, e2]⟩) hn.1
      · exact ih hn.2 he1 hf1 h
theorem back_ok (h : M.Ok) (hq : q < M.tab.length) (ke : KEnd M 1 q k) : (((Qk M 1 q k).drop 1).find? fun e => decide (e.1 = q)).map (·.2) = M.back q := by
  have v := ke.iv
  have hl := ke.len
  have hle := ke.le
  have hn1 := h.n1
  rw [Mc.back_find]
  generalize Qk M 1 q k = Q at v hl
  cases ef : (Q.drop 1).find? fun e => decide (e.1 = q) with
  | none =>
    rw [List.find?_eq_none] at ef
    symm
    show List.find? _ _ = none
    rw [List.find?_eq_none]
    intro w hw hr
    obtain ⟨w1, w2, w3⟩ := mem_drop1.mp hw
    obtain ⟨f, f1, f2, _⟩ := v.least hl w w1 w3
    exact ef f f1 (decide_eq_true (by rw [f2]; exact of_decide_eq_true hr))
  | some f =>
    have f1 := List.mem_of_find?_eq_some ef
    have f2 : f.1 = q := of_decide_eq_true (List.find?_some (p := fun e : En => decide (e.1 = q)) ef)
    obtain ⟨r1, r2⟩ := v.run f (List.mem_of_mem_drop f1)
    obtain ⟨i, hi, ei⟩ := List.mem_iff_getElem.mp f1
    rw [List.getElem_drop] at ei
    rw [List.length_drop] at hi
    have ei' : Q[1 + i]? = some f := by rw [List.getElem?_eq_getElem (by omega), ei]
    have l1 := v.len _ _ ei'
    have l2 := v.ne _ _ ei' (by omega)
    symm
    refine find_min (K := M.K) ?_ (mem_drop1.mpr ⟨l2, by show f.2.length ≤ 4; omega, r2⟩) (decide_eq_true (by rw [← r1, f2])) fun x hx px => ?_
    · exact List.Pairwise.sublist (List.drop_sublist _ _) (srt h.k)
    · obtain ⟨w1, w2, w3⟩ := mem_drop1.mp hx
      obtain ⟨g, g1, g2, g3⟩ := v.least hl x w1 w3
      have : g = f := fst_inj v.nd g1 f1 (by rw [g2, f2]; exact of_decide_eq_true px)
      rw [← this]
      exact g3
/-! least_going_on -/
def encO : Option (List Nat) → D
  | none => .none
  | some w => .str (tx w)
theorem items_ok {f : FE} (hf : f δ = .ok (.oK (Q.map kv))) : FW.iItems (fFrz f) δ = .ok (Q.map encE) := by
  unfold FW.iItems fFrz
  rw [hf]
  show gd (isDK ((Q.map kv).map fun kv => (keyD kv.1, kv.2))) (Tr.ok (pairsD ((Q.map kv).map fun kv => (keyD kv.1, kv.2)))) = _
  have h1 : isDK ((Q.map kv).map fun kv => (keyD kv.1, kv.2)) = true := by cases Q <;> rfl
  rw [h1]
  unfold pairsD
  rw [List.map_map, List.map_map]
  rfl
theorem get1_ok {f fk : FE} (hf : f δ = .ok (.oK (Q.map kv))) (hk : fk δ = .ok (.im (.int (q : Nat)))) : fGet1 f fk δ = .ok (.im (encO ((Q.find? fun e => decide (e.1 = q)).map (·.2)))) := by
  unfold fGet1
  rw [hf, bind_ok]
  show ((fk δ).bind fun y => gGet1 (.oK (Q.map kv)) y) = _
  rw [hk, bind_ok]
  unfold gGet1
  have : getZ (R.oK (Q.map kv)) (.im (.int (q : Nat))) = some ((Q.find? fun e => decide (e.1 = q)).map fun e => .str (tx e.2)) := by
    show some (valD (Q.map kv) (.inl ((q : Nat) : Int))) = _
    rw [val_kv]
  rw [this]
  cases Q.find? fun e => decide (e.1 = q) <;> rfl
theorem isN_O {neg : Bool} {o : Option (List Nat)} {f : FE} (hf : f δ = .ok (.im (encO o))) : tB (fOp (gIsN neg) f (fC .none)) δ = .ok (if neg then o.isSome else o.isNone) := by
  refine tB_ok (op_ok hf rfl ?_)
  cases o <;> cases neg <;> rfl
def Mc.pE (M : Mc) (e : En) : Bool := M.hit e.1 && (M.back e.1).isSome
def Mc.lss (M : Mc) (e : En) : List Nat × List Nat := leastF e.2 ((M.back e.1).getD [])
def encP (p : List Nat × List Nat) : D := encL p.1 p.2
theorem going_ok (h : M.Ok) (ke : KEnd M 0 0 k) : F_least_going_on [.im M.enc] = .ok (.im (match (Qk M 0 0 k).find? M.pE with
    | some e => encP (M.lss e)
    | none => .none)) := by
  have v := ke.iv
  have hl := ke.len
  have hle := ke.le
  have hn1 := h.n1
  have hit : ∀ (e : En) (x y : Option SV), tB (fOp (gInT false) (fV 1) (fOp gIx (fV 0) (fC (.int 2)))) [some (.im M.enc), some (.im (.int (e.1 : Nat))), x, y] = .ok (M.hit e.1) := fun e x y => tB_ok (hit_ok rfl rfl)
  have main := forF_find (g := gTup 2 (gsCons (gN 1) (gsCons (gN 2) gsNil))) (e := encE) (p := M.pE) (val := fun e => .im (encP (M.lss e)))
    (b := sIfF (tB (fOp (gInT false) (fV 1) (fOp gIx (fV 0) (fC (.int 2))))) (sSq (sSetF 3 (fGet1 (fCallC 2 F_words_back (aCons (fV 0) (aCons (fV 1) aNil))) (fV 1)))
 (sIfF (tB (fOp (gIsN true) (fV 3) (fC .none))) (sRetF (fCallF 1 F_least_lasso (aCons (fTup (aCons (fV 2) (aCons (fV 3) aNil))) aNil))) sNx)) sNx)
    (fun δ => ∃ x y z, δ = [some (.im M.enc), x, y, z]) (Qk M 0 0 k) [some (.im M.enc), none, none, none] ⟨none, none, none, rfl⟩ (by
      rintro e he δ ⟨x, y, w0, rfl⟩
      obtain ⟨r1, r2⟩ := v.run e he
      have hq : e.1 < M.tab.length := by rw [r1]; exact Mc.run_lt h _ _ h.n0 r2
      obtain ⟨i, hi, ei⟩ := List.mem_iff_getElem.mp he
      have l1 := v.len i e (by rw [List.getElem?_eq_getElem hi, ei])
      obtain ⟨k2, ke2⟩ := kEnd (M := M) (z := 1) h (by omega) hq
      have eg : sSetF 3 (fGet1 (fCallC 2 F_words_back (aCons (fV 0) (aCons (fV 1) aNil))) (fV 1)) [some (.im M.enc), some (.im (.int (e.1 : Nat))), some (.im (.str (tx e.2))), w0] = .ok (.nx [some (.im M.enc), some (.im (.int (e.1 : Nat))), some (.im (.str (tx e.2))), some (.im (encO (M.back e.1)))]) := by
        refine set_ok (r := .im (encO (M.back e.1))) ?_ rfl
        rw [← back_ok h hq ke2]
        exact get1_ok (callC_ok (cons_ok rfl (cons_ok rfl rfl)) rfl (words_back_ok h hq ke2)) rfl
      refine ⟨[some (.im M.enc), some (.im (.int (e.1 : Nat))), some (.im (.str (tx e.2))), w0], rfl, fun hp => ?_, fun hp => ?_⟩
      · unfold Mc.pE at hp
        rw [Bool.and_eq_true] at hp
        obtain ⟨w, hw⟩ := Option.isSome_iff_exists.mp hp.2
        refine (if_t (by rw [hit, hp.1])).trans ((sq_nx eg).trans ((if_t (by rw [isN_O rfl]; rw [hw]; rfl)).trans ?_))
        unfold Mc.lss
        rw [hw]
        obtain ⟨b1, b2, b3, b4⟩ := back_in hw
        exact ret_ok (callF_ok (cons_ok (tup2 rfl) rfl) rfl (least_ok b1 (by omega) (by omega) (sm_K h r2) (sm_K h b3)))
      · cases hh : M.hit e.1 with
        | false => exact ⟨_, (if_f (by rw [hit, hh])).trans rfl, _, _, _, rfl⟩
        | true =>
          unfold Mc.pE at hp
          rw [hh, Bool.true_and] at hp
          exact ⟨_, (if_t (by rw [hit, hh])).trans ((sq_nx eg).trans ((if_f (by rw [isN_O rfl]; show Tr.ok (M.back e.1).isSome = _; rw [hp])).trans rfl)), _, _, _, rfl⟩)
  have ei := items_ok (f := fCallC 1 F_least_words (aCons (fV 0) aNil)) (Q := Qk M 0 0 k) (δ := [some (.im M.enc), none, none, none]) (callC_ok (cons_ok rfl rfl) rfl (least_words_ok h ke))
  rcases main with ⟨e, e1, e2⟩ | ⟨e1, δ', e2, x, y, w0, e3⟩
  · rw [e1]
    exact fn_ok (sq_rt (for_ok ei e2)) rfl
  · rw [e1]
    exact fn_ok ((sq_nx (for_ok ei e2)).trans (ret_ok rfl)) rfl
end
end K40
set_option Elab.async false
set_option linter.all false
set_option maxRecDepth 100000
set_option maxHeartbeats 4000000
/-! the first signs of a lasso's word -/
namespace K40
open PySem PySem.Spec L2 DW FW
section
variable {M : Mc} {z s q i j n m c k K N p : Nat} {l a b w x y u : List Nat} {Q : List En} {e : En} {δ : DEnv} {fa fb : FE}
theorem rep_add : rep (m + n) l = rep m l ++ rep n l := by
  induction m with
  | zero => rw [Nat.zero_add]; rfl
  | succ m ih => rw [show m + 1 + n = (m + n) + 1 by omega, rep_succ, rep_succ, ih, List.append_assoc]
theorem rep_mul : rep (m * n) l = rep m (rep n l) := by
  induction m with
  | zero => rw [Nat.zero_mul]; rfl
  | succ m ih => rw [Nat.succ_mul, Nat.add_comm, rep_add, ih, rep_succ]
def pre (N : Nat) (a b : List Nat) : List Nat := (a ++ rep N b).take N
theorem rep_ge (hb : b ≠ []) : n ≤ (rep n b).length := by
  rw [rep_len]
  exact Nat.le_mul_of_pos_right _ (List.length_pos_iff.mpr hb)
theorem pre_ge (hb : b ≠ []) (h : N ≤ n) : (a ++ rep n b).take N = pre N a b := by
  obtain ⟨d, rfl⟩ := Nat.exists_eq_add_of_le h
  unfold pre
  rw [rep_add, ← List.append_assoc, List.take_append_of_le_length]
  have := rep_ge (n := N) hb
  rw [List.length_append]; omega
theorem far_pre (hb : b ≠ []) : far a b = pre 48 a b := pre_ge hb (by omega)
theorem rep_shift (n c : Nat) (l : List Nat) : [c] ++ rep n (l ++ [c]) = rep n (c :: l) ++ [c] := by
  induction n with
  | zero => rfl
  | succ n ih =>
    rw [rep_succ, rep_succ, ← List.append_assoc, ← List.append_assoc, List.append_assoc, ih, ← List.append_assoc]
    rfl
theorem pre_shift : pre N (a ++ [c]) (l ++ [c]) = pre N a (c :: l) := by
  unfold pre
  rw [List.append_assoc, rep_shift, ← List.append_assoc, List.take_append_of_le_length]
  have := rep_ge (n := N) (b := c :: l) (by simp)
  rw [List.length_append]; omega
theorem nrm_len : ∀ (n : Nat) (a l : List Nat), (nrm n a l).2.length = l.length ∧ (nrm n a l).1.length ≤ a.length ∧ (∀ c ∈ (nrm n a l).1, c ∈ a) ∧ ∀ c ∈ (nrm n a l).2, c ∈ l
  | 0, a, l => ⟨rfl, Nat.le_refl _, fun c h => h, fun c h => h⟩
  | n + 1, a, l => by
    rw [nrm]
    split
    · rename_i x y h1 h2
      split
      · have hl : 0 < l.length := List.length_pos_iff.mpr fun e => by rw [e] at h2; cases h2
        obtain ⟨g1, g2, g3, g4⟩ := nrm_len n a.dropLast (y :: l.dropLast)
        refine ⟨by rw [g1, List.length_cons, List.length_dropLast]; omega, by rw [List.length_dropLast] at g2; omega, fun c hc => memDL (g3 c hc), fun c hc => ?_⟩
        rcases List.mem_cons.mp (g4 c hc) with e | e
        · rw [e]; exact List.mem_of_getLast? h2
        · exact memDL e
      · exact ⟨rfl, Nat.le_refl _, fun c h => h, fun c h => h⟩
    · exact ⟨rfl, Nat.le_refl _, fun c h => h, fun c h => h⟩
theorem pre_nrm : ∀ (n : Nat) (a l : List Nat), pre N (nrm n a l).1 (nrm n a l).2 = pre N a l
  | 0, a, l => rfl
  | n + 1, a, l => by
    rw [nrm]
    split
    · rename_i x y h1 h2
      split
      · rename_i e
        subst e
        rw [pre_nrm n]
        have e1 : a = a.dropLast ++ [x] := by
          have h0 : a ≠ [] := fun e => by rw [e] at h1; cases h1
          have := List.dropLast_concat_getLast h0
          rw [List.getLast?_eq_some_getLast h0] at h1
          rw [← Option.some.inj h1]; exact this.symm
        have e2 : l = l.dropLast ++ [x] := by
          have h0 : l ≠ [] := fun e => by rw [e] at h2; cases h2
          have := List.dropLast_concat_getLast h0
          rw [List.getLast?_eq_some_getLast h0] at h2
          rw [← Option.some.inj h2]; exact this.symm
        conv => rhs; rw [e1, e2]
        rw [pre_shift]
      · rfl
    · rfl
theorem pre_root (hb : b ≠ []) : pre N a (rootF b) = pre N a b := by
  unfold rootF
  split
  · rename_i k e
    have h1 := of_decide_eq_true (List.find?_some (p := fun k => decide (rep (b.length / k) (b.take k) = b)) e)
    have h2 := List.mem_of_find?_eq_some e
    rw [List.mem_range'_1] at h2
    have h3 : 0 < b.length / k := by
      rcases Nat.eq_zero_or_pos (b.length / k) with z | z
      · rw [z] at h1; exact absurd h1.symm hb
      · exact z
    have h4 : b.take k ≠ [] := fun z => by rw [z] at h1; have : rep (b.length / k) ([] : List Nat) = [] := by unfold rep; simp
                                           rw [this] at h1; exact hb h1.symm
    have h5 : rep N b = rep (N * (b.length / k)) (b.take k) := by rw [rep_mul, h1]
    show pre N a (b.take k) = (a ++ rep N b).take N
    rw [h5]
    exact (pre_ge h4 (Nat.le_mul_of_pos_right _ h3)).symm
  · rfl
theorem pre_least (hb : b ≠ []) : pre N (leastF a b).1 (leastF a b).2 = pre N a b := by
  unfold leastF
  rw [pre_nrm, pre_root hb]
theorem least_in (hb : b ≠ []) : 0 < (leastF a b).2.length ∧ (leastF a b).2.length ≤ b.length ∧ (leastF a b).1.length ≤ a.length ∧ (∀ c ∈ (leastF a b).1, c ∈ a) ∧ ∀ c ∈ (leastF a b).2, c ∈ b := by
  obtain ⟨h1, h2, h3, h4⟩ := nrm_len a.length a (rootF b)
  exact ⟨by unfold leastF; rw [h1]; exact rootF_pos hb, by unfold leastF; rw [h1]; exact rootF_len, h2, h3, fun c hc => rootF_sub c (h4 c hc)⟩
theorem tr_at : ∀ (l : List Nat) (s i : Nat), i < l.length → (M.tr s l)[i]? = some (M.run s (l.take (i + 1)))
  | [], s, i, h => by cases h
  | c :: r, s, 0, h => rfl
  | c :: r, s, i + 1, h => by
    show (M.tr (M.st s c) r)[i]? = _
    rw [tr_at r (M.st s c) i (by simpa using h)]
    rfl
theorem run_rep (h : M.run q w = q) : M.run q (rep j w) = q := by
  induction j with
  | zero => rfl
  | succ j ih => rw [rep_succ, Mc.run_app, h, ih]
/-- a machine goes on with a lasso whose word is that of (w, u), w leading to an end that u leads back to -/
theorem goes_true {a' b' : List Nat} (n0 : 0 < n) (hw : w.length < n) (hu : u ≠ []) (hun : u.length ≤ n) (hq : M.run 0 w = q) (hr : M.run q u = q) (hh : M.hit q = true) (hb : b' ≠ []) (ha : a'.length ≤ w.length) (hp : ∀ N, pre N a' b' = pre N w u) :
    M.goes (M.run 0 (a' ++ rep n b')) (rep 3 (rep n b')) = true := by
  have hB : 0 < b'.length := List.length_pos_iff.mpr hb
  have hU : 0 < u.length := List.length_pos_iff.mpr hu
  have lA : (a' ++ rep n b').length = a'.length + n * b'.length := by rw [List.length_append, rep_len]
  have lB : (rep 3 (rep n b')).length = 3 * (n * b'.length) := by rw [rep_len, rep_len]
  have hnb : n ≤ n * b'.length := Nat.le_mul_of_pos_right _ hB
  -- the place
  obtain ⟨j, h1, h2⟩ : ∃ j, w.length + j * u.length ≤ a'.length + 4 * (n * b'.length) ∧ a'.length + n * b'.length < w.length + j * u.length := by
    refine ⟨(a'.length + 4 * (n * b'.length) - w.length) / u.length, ?_, ?_⟩
    · have := Nat.div_mul_le_self (a'.length + 4 * (n * b'.length) - w.length) u.length
      omega
    · have h3 := Nat.lt_div_mul_add hU (a := a'.length + 4 * (n * b'.length) - w.length)
      omega
  generalize hP : w.length + j * u.length = P at h1 h2
  unfold Mc.goes
  rw [List.any_eq_true]
  refine ⟨q, ?_, hh⟩
  have hi := tr_at (M := M) (rep 3 (rep n b')) (M.run 0 (a' ++ rep n b')) (P - (a'.length + n * b'.length) - 1) (by rw [lB]; omega)
  refine List.mem_of_getElem? (i := P - (a'.length + n * b'.length) - 1) ?_
  rw [hi, ← Mc.run_app]
  congr 1
  have e1 : (a' ++ rep n b') ++ (rep 3 (rep n b')).take (P - (a'.length + n * b'.length) - 1 + 1) = ((a' ++ rep n b') ++ rep 3 (rep n b')).take P := by
    rw [List.take_append, lA, List.take_of_length_le (l := a' ++ rep n b') (by rw [lA]; omega), show P - (a'.length + n * b'.length) - 1 + 1 = P - (a'.length + n * b'.length) by omega]
  have e2 : (a' ++ rep n b') ++ rep 3 (rep n b') = a' ++ rep (4 * n) b' := by
    rw [List.append_assoc, ← rep_mul, ← rep_add]
    congr 2
    omega
  have e3 : (a' ++ rep (4 * n) b').take P = (w ++ rep j u) := by
    have g1 : (a' ++ rep (4 * n) b').take P = (a' ++ rep (4 * n + P) b').take P := by
      rw [rep_add, ← List.append_assoc, List.take_append_of_le_length (l₁ := a' ++ rep (4 * n) b')]
      rw [List.length_append, rep_len, Nat.mul_assoc]; exact h1
    have hjP : j ≤ P := by
      have : j ≤ j * u.length := Nat.le_mul_of_pos_right _ hU
      omega
    rw [g1, pre_ge hb (by omega), hp, ← pre_ge hu (n := j + P) (by omega), rep_add, ← List.append_assoc, List.take_append_of_le_length (by rw [List.length_append, rep_len]; omega), List.take_of_length_le (by rw [List.length_append, rep_len]; omega)]
  rw [e1, e2, e3, Mc.run_app, hq, run_rep hr]
end
end K40
set_option Elab.async false
set_option linter.all false
set_option maxRecDepth 100000
set_option maxHeartbeats 4000000
/-! sign_at; the drawn machine -/
namespace K40
open PySem PySem.Spec L2 DW FW
section
variable {M : Mc} {z s q i j n m c k K N p : Nat} {l a b w x y u : List Nat} {Q : List En} {e : En} {δ : DEnv} {fa fb : FE}
theorem ixS_ok (h : l[i]? = some c) (hl : l.length ≤ 1000) : gIx (.im (.str (tx l))) (.im (.int (i : Nat))) = .ok (.im (.str (tx [c]))) := by
  have hi := (List.getElem?_eq_some_iff.mp h).1
  show gd (szOk (tx l).length) ((ofO (atI (tx l).cps.toList (i : Int))).bind _) = _
  rw [tx_len, tx_cps]
  have h1 : szOk l.length = true := by unfold szOk; exact decide_eq_true (by omega)
  have h2 : atI (l.map (97 + ·)) (i : Int) = some (97 + c) := by
    unfold atI ixN
    rw [List.length_map, if_pos (by omega), if_pos (by omega)]
    simp [h]
  rw [h1, h2]
  rfl
theorem rep_at : ∀ (n i : Nat), i < n * b.length → (rep n b)[i]? = b[i % b.length]?
  | 0, i, h => by rw [Nat.zero_mul] at h; cases h
  | n + 1, i, h => by
    rw [rep_succ]
    by_cases hi : i < b.length
    · rw [List.getElem?_append_left hi, Nat.mod_eq_of_lt hi]
    · rw [List.getElem?_append_right (by omega), rep_at n (i - b.length) (by rw [Nat.succ_mul] at h; omega)]
      rw [← Nat.mod_eq_sub_mod (by omega)]
theorem lt_ok {m n : Nat} {fa fb : FE} (ha : fa δ = .ok (.im (.int (m : Nat)))) (hb : fb δ = .ok (.im (.int (n : Nat)))) : tB (fOp gLt fa fb) δ = .ok (decide (m < n)) := by
  refine tB_ok (op_ok ha hb ?_)
  show Tr.ok (R.im (.bool (decide _))) = _
  congr 3
  exact decide_eq_decide.mpr Int.ofNat_lt
theorem sign_at_ok (hb : b ≠ []) (sb : Sm b) (la : a.length ≤ 1000) (lb : b.length ≤ 1000) (hk : k < 48) : ∃ c, (far a b)[k]? = some c ∧ F_sign_at [.im (encL a b), .im (.int (k : Nat))] = .ok (.im (.str (tx [c]))) := by
  have hB : 0 < b.length := List.length_pos_iff.mpr hb
  have e1 : (sDropF (fCallF 1 F_need_loop (aCons (fV 0) aNil))) [some (.im (encL a b)), some (.im (.int (k : Nat))), none, none] = .ok (.nx [some (.im (encL a b)), some (.im (.int (k : Nat))), none, none]) := drop_ok (callF_ok (cons_ok rfl rfl) rfl (need_loop_ok hb sb))
  have ht : ∀ δ : DEnv, δ = [some (.im (encL a b)), some (.im (.int (k : Nat))), some (.im (.str (tx a))), some (.im (.str (tx b)))] → tB (fOp gLt (fV 1) (fCall gLen (aCons (fV 2) aNil))) δ = .ok (decide (k < a.length)) := fun δ e => by
    subst e
    exact lt_ok rfl (len_tx' (by omega) rfl)
  by_cases h : k < a.length
  · refine ⟨a[k], ?_, fn_ok ((sq_nx e1).trans ((sq_nx (asg_ok rfl rfl rfl)).trans (ret_ok (fIf_t ((ht _ rfl).trans (by rw [decide_eq_true h])) (op_ok rfl rfl (ixS_ok (List.getElem?_eq_getElem h) la)))))) rfl⟩
    unfold far
    rw [List.getElem?_take, if_pos hk, List.getElem?_append_left h, List.getElem?_eq_getElem h]
  · have hm : (k - a.length) % b.length < b.length := Nat.mod_lt _ hB
    refine ⟨b[(k - a.length) % b.length], ?_, fn_ok ((sq_nx e1).trans ((sq_nx (asg_ok rfl rfl rfl)).trans (ret_ok (fIf_f ((ht _ rfl).trans (by rw [decide_eq_false h])) (op_ok rfl (z := .im (.str (tx [b[(k - a.length) % b.length]]))) (y := .im (.int (((k - a.length) % b.length : Nat) : Int))) ?_ (ixS_ok (List.getElem?_eq_getElem hm) lb)))))) rfl⟩
    · unfold far
      rw [List.getElem?_take, if_pos hk, List.getElem?_append_right (by omega), rep_at 60 _ (by omega), List.getElem?_eq_getElem hm]
    · refine op_ok (x := .im (.int ((k - a.length : Nat) : Int))) (y := .im (.int (b.length : Nat))) (op_ok rfl (len_tx' (w := a) (by omega) rfl) ?_) (len_tx' (w := b) (by omega) rfl) ?_
      · show Tr.ok (R.im (PyData.int (((k : Nat) : Int) - ((a.length : Nat) : Int)))) = _
        congr 3
        omega
      · show gd (decide ((0 : Int) < ((b.length : Nat) : Int))) (Tr.ok (R.im (PyData.int (((k - a.length : Nat) : Int) % ((b.length : Nat) : Int))))) = _
        rw [decide_eq_true (by omega)]
        rfl
/-! ### the drawn machine -/
variable {PX : Xn → Prop}
theorem ex_map {α β : Type} {P : α → Prop} {e : α → β} : ∀ {out : List β}, (∀ d ∈ out, ∃ o, d = e o ∧ P o) → ∃ os : List α, out = os.map e ∧ ∀ o ∈ os, P o
  | [], _ => ⟨[], rfl, fun o ho => by cases ho⟩
  | d :: r, h => by
    obtain ⟨o, rfl, p⟩ := h _ (List.mem_cons_self ..)
    obtain ⟨os, rfl, ps⟩ := ex_map fun d hd => h d (List.mem_cons_of_mem _ hd)
    refine ⟨o :: os, rfl, fun x hx => ?_⟩
    rcases List.mem_cons.mp hx with z | z
    · rw [z]; exact p
    · exact ps x z
theorem pick_list {ds : List D} (h0 : ds ≠ []) (hl : ds.length ≤ 1000) : (F__law_pick [.drw, .im (.list ds)]).sat (fun r => ∃ d ∈ ds, r = .im d) PX := by
  have hp : 0 < ds.length := List.length_pos_iff.mpr h0
  refine sat_fn (sat_ret (sat_op (sat_ok rfl (sat_take (m := ds.length) rfl (call_ok (cons_ok rfl rfl) rfl) hp (by omega) fun i hi => ?_))))
  have e : gIx (.im (.list ds)) (.im (.int (i : Nat))) = .ok (.im ds[i]) := by
    show (ofO (atI ds (i : Int))).bind _ = _
    have h2 : atI ds (i : Int) = some ds[i] := by
      unfold atI ixN
      rw [if_pos (by omega), if_pos (by omega)]
      simp [hi]
    rw [h2]
    rfl
  exact sat_ok e ⟨_, rfl, rfl, ds[i], List.getElem_mem hi, rfl⟩
theorem sat_fcons {δ : DEnv} {f : FE} {faa : FA} {PA : List R → Prop} (h : (f δ).sat (fun r => ∃ r', r.frz = some r' ∧ (faa δ).sat (fun rs => PA (r' :: rs)) PX) PX) : (aFCons f faa δ).sat PA PX := Tr.sat_bind.mpr (Tr.sat_of h fun r hr => by
  obtain ⟨r', e, p⟩ := hr
  try dsimp only
  rw [e]
  exact Tr.sat_bind.mpr p)
theorem sat_lcIfF {g : FG} {t : FT} {f : FE} {PD : D → Prop} {δ0 : DEnv} : ∀ (items acc : List D), acc.length + items.length ≤ 16777216 → (∀ d ∈ items, ∃ δ1, g d δ0 = .ok δ1 ∧ (t δ1).sat (fun b => b = true → ∃ r d', f δ1 = .ok r ∧ r.dat = some d' ∧ PD d') fun _ => False) →
    (lcF g t f δ0 items acc).sat (fun out => ∃ new, out = acc ++ new ∧ new.length ≤ items.length ∧ ∀ d ∈ new, PD d) PX
  | [], acc, _, _ => ⟨[], (List.append_nil _).symm, Nat.le_refl _, fun d hd => by cases hd⟩
  | d :: ds, acc, hl, hs => by
    rw [List.length_cons] at hl
    obtain ⟨δ1, e1, h2⟩ := hs d (List.mem_cons_self ..)
    rw [lcF, e1]
    show ((calm (t δ1)).bind _).sat _ _
    refine Tr.sat_bind.mpr (Tr.sat_of (calm_mk h2) fun b hb => ?_)
    cases b with
    | false =>
      refine Tr.sat_of (sat_lcIfF ds acc (by omega) fun d hd => hs d (List.mem_cons_of_mem _ hd)) fun out ho => ?_
      obtain ⟨new, e4, e5, e6⟩ := ho
      exact ⟨new, e4, by rw [List.length_cons]; omega, e6⟩
    | true =>
      obtain ⟨r, d', e2, e3, p⟩ := hb rfl
      show ((calm (f δ1)).bind _).sat _ _
      rw [e2]
      show (match r.dat with | some d' => gd (decide (acc.length < 16777216)) (lcF g t f δ0 ds (acc ++ [d'])) | none => Tr.no).sat _ _
      rw [e3]
      show (gd _ _).sat _ _
      rw [decide_eq_true (by omega)]
      refine Tr.sat_of (sat_lcIfF ds (acc ++ [d']) (by rw [List.length_append]; simp; omega) fun d hd => hs d (List.mem_cons_of_mem _ hd)) fun out ho => ?_
      obtain ⟨new, e4, e5, e6⟩ := ho
      refine ⟨d' :: new, by rw [e4, List.append_assoc]; rfl, by rw [List.length_cons, List.length_cons]; omega, fun x hx => ?_⟩
      rcases List.mem_cons.mp hx with z | z
      · rw [z]; exact p
      · exact e6 x z
theorem sat_lcIf {g : FG} {t : FT} {f : FE} {δ : DEnv} {P : R → Prop} {PD : D → Prop} {fi : FI} {vs : List Nat} (hi : (fi δ).sat (fun items => items.length ≤ 16777216 ∧ (∀ d ∈ items, ∃ δ1, g d (wipeD δ vs) = .ok δ1 ∧ (t δ1).sat (fun b => b = true → ∃ r d', f δ1 = .ok r ∧ r.dat = some d' ∧ PD d') fun _ => False) ∧ ∀ out : List D, out.length ≤ items.length → (∀ d ∈ out, PD d) → P (.ol out)) PX) : (fLc fi g t f vs δ).sat P PX := by
  unfold fLc
  refine Tr.sat_bind.mpr (Tr.sat_of hi fun items hr => ?_)
  obtain ⟨hl, h, hp⟩ := hr
  refine Tr.sat_bind.mpr (Tr.sat_of (sat_lcIfF items [] (by simpa using hl) h) fun out ho => ?_)
  obtain ⟨new, e, e2, e3⟩ := ho
  rw [List.nil_append] at e
  subst e
  exact hp _ e2 e3
theorem sat_iS {δ : DEnv} {f : FE} {z : Str} {P : List D → Prop} (h : f δ = .ok (.im (.str z))) (p : P (signs z)) : (iS f δ).sat P PX := by rw [iS_ok h]; exact p
theorem law_machine_ok : (F__law_machine [.drw, .im (.int 4)]).sat (fun r => ∃ M : Mc, M.Ok ∧ r = .im M.enc) PX := by
  refine sat_fn (sat_sq (sat_set (sat_callC (sat_cons (sat_ok (a := R.drw) rfl (sat_fcons (sat_ok (a := R.ol [.str (tx [0, 1]), .str (tx [0, 1]), .str (tx [0]), .str (tx [0, 1, 2])]) rfl ⟨.im (.list [.str (tx [0, 1]), .str (tx [0, 1]), .str (tx [0]), .str (tx [0, 1, 2])]), rfl, sat_ok (a := []) rfl ⟨rfl, ?_⟩⟩)))))))
  refine Tr.sat_of (pick_list (ds := [.str (tx [0, 1]), .str (tx [0, 1]), .str (tx [0]), .str (tx [0, 1, 2])]) (fun z => by cases z) (show 4 ≤ 1000 by decide)) fun r hr => ?_
  obtain ⟨K, hK, er⟩ : ∃ K, (K = 1 ∨ K = 2 ∨ K = 3) ∧ r = .im (.str (tx (List.range K))) := by
    obtain ⟨d, hd, er⟩ := hr
    rcases List.mem_cons.mp hd with z | hd
    · exact ⟨2, .inr (.inl rfl), by rw [er, z]; rfl⟩
    · rcases List.mem_cons.mp hd with z | hd
      · exact ⟨2, .inr (.inl rfl), by rw [er, z]; rfl⟩
      · rcases List.mem_cons.mp hd with z | hd
        · exact ⟨1, .inl rfl, by rw [er, z]; rfl⟩
        · exact ⟨3, .inr (.inr rfl), by rw [er, List.mem_singleton.mp hd]; rfl⟩
  subst er
  refine ⟨.im (.str (tx (List.range K))), rfl, _, rfl, ?_⟩
  refine sat_sq (sat_set (sat_op (sat_ok (a := .im (.int 1)) rfl (sat_take (m := 4) rfl rfl (by decide) (by decide) fun m0 hm0 => sat_ok (a := .im (.int ((m0 + 1 : Nat) : Int))) ?_ ⟨_, rfl, _, rfl, ?_⟩))))
  · show Tr.ok (R.im (PyData.int (1 + (m0 : Nat)))) = _
    congr 3
    omega
  generalize hm : m0 + 1 = m
  have m1 : 1 ≤ m := by omega
  have m4 : m ≤ 4 := by omega
  refine sat_sq (sat_set (sat_call (sat_cons (sat_lc (PD := fun d => ∃ row : List Nat, d = .tuple (row.map encI) ∧ (row.length = K ∧ ∀ p ∈ row, p < m)) ?_))))
  refine sat_R1 (sat_ok (a := [.im (.int (m : Nat))]) rfl ⟨m, rfl, by omega, ?_⟩)
  refine ⟨by rw [List.length_map, List.length_range]; omega, fun d hd => ⟨_, rfl, sat_call (sat_cons (sat_lc (PD := fun d => ∃ i : Nat, d = encI i ∧ i < m) (sat_iS rfl ⟨by rw [signs_tx, List.length_map, List.length_range]; omega, fun d hd => ⟨_, rfl, sat_take (m := m) rfl rfl m1 (by omega) fun r hr => ⟨_, rfl, r, rfl, hr⟩⟩, fun out ho hp => ?_⟩)))⟩, fun out ho hp => ?_⟩
  · obtain ⟨os, rfl, hos⟩ := ex_map hp
    rw [List.length_map, signs_tx, List.length_map, List.length_range] at ho
    exact sat_ok (a := []) rfl (sat_ok rfl ⟨_, rfl, os, rfl, ho, hos⟩)
  · obtain ⟨tab, rfl, ht⟩ := ex_map hp
    rw [List.length_map, List.length_map, List.length_range] at ho
    refine sat_ok (a := []) rfl (sat_ok (a := .im (encT tab)) rfl ⟨_, rfl, _, rfl, ?_⟩)
    refine sat_ret (sat_tup (sat_cons (sat_ok (a := .im (.str (tx (List.range K)))) rfl (sat_cons (sat_ok (a := .im (encT tab)) rfl (sat_cons (sat_call (sat_cons (sat_lcIf (PD := fun d => ∃ i : Nat, d = encI i ∧ True) ?_)))))))))
    refine sat_R1 (sat_ok (a := [.im (.int (m : Nat))]) rfl ⟨m, rfl, by omega, ?_⟩)
    refine ⟨by rw [List.length_map, List.length_range]; omega, fun d hd => ?_, fun out ho2 hp2 => ?_⟩
    · obtain ⟨i, _, rfl⟩ := List.mem_map.mp hd
      refine ⟨_, rfl, Tr.sat_bind.mpr (sat_op (sat_take (m := 3) rfl rfl (by decide) (by decide) fun r hr => sat_ok (a := .im (.int 0)) rfl ?_))⟩
      refine sat_ok (a := .im (.bool (decide (r = 0)))) ?_ ?_
      · unfold gEq
        show gd (shp (.int (r : Nat)) && shp (.int (0 : Nat))) (Tr.ok (R.im (PyData.bool (PyData.eqv (.int (r : Nat)) (.int (0 : Nat)))))) = _
        rw [shp_nat, shp_nat, eqv_nat]; rfl
      · intro _
        exact ⟨_, _, rfl, rfl, i, rfl, trivial⟩
    · obtain ⟨acc, rfl, _⟩ := ex_map hp2
      rw [List.length_map, List.length_map, List.length_range] at ho2
      refine sat_ok (a := []) rfl (sat_ok (a := .im (.tuple (acc.map encI))) rfl (sat_ok (a := []) rfl ⟨[.str (tx (List.range K)), encT tab, .tuple (acc.map encI)], rfl, (show 3 ≤ 16777216 by decide), _, rfl, rfl, ⟨K, tab, acc⟩, ⟨hK, by show 0 < tab.length; omega, by show tab.length ≤ 4; omega, fun r hr => ?_⟩, rfl⟩))
      obtain ⟨h1, h2⟩ := ht r hr
      exact ⟨h1, fun p hp => by show p < tab.length; rw [ho]; exact h2 p hp⟩
end
end K40
set_option Elab.async false
set_option linter.all false
set_option maxRecDepth 100000
set_option maxHeartbeats 4000000
/-! a turn of the law -/
namespace K40
open PySem PySem.Spec L2 DW FW
def l1 : FS := (sSetF 2 (fCallC 2 F__law_machine (aCons (fV 1) (aCons (fC (.int 4)) aNil))))
def l2 : FS := (sIfF (tB (fOp gNe (fLc (iT (fTup (aCons (fC (.int 0)) (aCons (fC (.int 1)) (aCons (fC (.int 2)) aNil))))) (gN 18) tYes (fCallC 2 F__law_code (aCons (fV 18) (aCons (fV 2) aNil))) [18]) (fOp gMulL (fLst (aCons (fC (.str "loop")) aNil)) (fC (.int 3))))) (sRetF (fC (.bool false))) sNx)
def l3 : FS := (sSetF 3 (fOp gIx (fV 2) (fC (.int 0))))
def l4 : FS := (sSetF 4 (fCallC 2 F__law_all (aCons (fV 3) (aCons (fC (.int 3)) aNil))))
def l5 : FS := (sForF (iR1 (aCons (fC (.int 4)) aNil)) (gN 5) (sSq (sFrzDF 4 (sSetF 6 (fTup (aFCons (fCallC 2 F__law_pick (aCons (fV 1) (aCons (fV 4) aNil))) (aFCons (fCallC 2 F__law_pick (aCons (fV 1) (aFCons (fSlice (fV 4) (oS (fC (.int 1))) oN) aNil))) aNil)))))  (sSq (sSetF 7 (fCallC 2 F__law_pick (aCons (fV 1) (aFCons (fLst (aCons (fTup (aFCons (fCallC 2 F__law_pick (aCons (fV 1) (aCons (fV 4) aNil))) (aFCons (fCallC 2 F__law_pick (aCons (fV 1) (aFCons (fSlice (fV 4) (oS (fC (.int 1))) oN) aNil))) aNil))) (aCons (fTup (aCons (fOp gAdd (fOp gIx (fV 6) (fC (.int 0))) (fOp gIx (fV 6) (fC (.int 1)))) (aCons (fOp gAdd (fOp gIx (fV 6) (fC (.int 1))) (fOp gIx (fV 6) (fC (.int 1)))) aNil))) (aCons (fTup (aCons (fOp gAdd (fOp gIx (fV 6) (fC (.int 0))) (fSlice (fOp gIx (fV 6) (fC (.int 1))) oN (oS (fC (.int 1))))) (aCons (fOp gAdd (fSlice (fOp gIx (fV 6) (fC (.int 1))) (oS (fC (.int 1))) oN) (fSlice (fOp gIx (fV 6) (fC (.int 1))) oN (oS (fC (.int 1))))) aNil))) aNil)))) aNil))))  (sSq (sSetF 8 (fOp gEq (fCallC 1 F__law_far (aCons (fV 6) aNil)) (fCallC 1 F__law_far (aCons (fV 7) aNil))))  (sSq (sIfF (tOrF (tB (fOp gNe (fCallF 2 F_same_lasso (aCons (fV 6) (aCons (fV 7) aNil))) (fV 8))) (tB (fOp gNe (fOp gEq (fCallF 1 F_least_lasso (aCons (fV 6) aNil)) (fCallF 1 F_least_lasso (aCons (fV 7) aNil))) (fV 8)))) (sRetF (fC (.bool false))) sNx)  (sSq (sSetF 9 (fC .none))  (sSq (sForF (iR1 (aCons (fOp gAdd (fCall gLen (aCons (fOp gIx (fV 6) (fC (.int 0))) aNil)) (fC (.int 1))) aNil)) (gN 10) (sForF (iR2 (aCons (fC (.int 1)) (aCons (fOp gAdd (fCall gLen (aCons (fOp gIx (fV 6) (fC (.int 1))) aNil)) (fC (.int 1))) aNil))) (gN 11) (sSq (sSetF 12 (fTup (aCons (fSlice (fCallC 1 F__law_far (aCons (fV 6) aNil)) oN (oS (fV 10))) (aCons (fSlice (fCallC 1 F__law_far (aCons (fV 6) aNil)) (oS (fV 10)) (oS (fOp gAdd (fV 10) (fV 11)))) aNil))))  (sSetF 9 (fIf (tAndF (tB (fOp (gIsN false) (fV 9) (fC .none))) (tB (fOp gEq (fCallC 1 F__law_far (aCons (fV 12) aNil)) (fCallC 1 F__law_far (aCons (fV 6) aNil))))) (fV 12) (fV 9))))))  (sSq (sIfF (tOrF (tB (fOp gNe (fCallF 1 F_least_lasso (aCons (fV 6) aNil)) (fV 9))) (tB (fOp gNe (fMtK isSB gJoin (fC (.str "")) (aCons (fLc (iR1 (aCons (fC (.int 20)) aNil)) (gN 20) tYes (fCallC 2 F_sign_at (aCons (fV 6) (aCons (fV 20) aNil))) [20]) aNil)) (fSlice (fCallC 1 F__law_far (aCons (fV 6) aNil)) oN (oS (fC (.int 20))))))) (sRetF (fC (.bool false))) sNx)  (sIfF (tB (fOp gNe (fCallF 2 F_goes_on (aCons (fV 2) (aCons (fV 6) aNil))) (fCallC 2 F__law_goes (aCons (fV 2) (aCons (fV 6) aNil))))) (sRetF (fC (.bool false))) sNx)))))))))
def l6 : FS := (sSetF 13 (fCallC 1 F__law_reach (aCons (fV 2) aNil)))
def l7 : FS := (sSetF 14 (fC .none))
def l8 : FS := (sFrzDF 13 (sForF (iKeys (fV 13)) (gN 15) (sIfF (tAndF (tB (fOp (gInT false) (fV 15) (fOp gIx (fV 2) (fC (.int 2))))) (tB (fOp (gIsN false) (fV 14) (fC .none)))) (sSq (sSetF 16 (fLc (iLb (fSlice (fCallC 2 F__law_all (aCons (fV 3) (aCons (fC (.int 4)) aNil))) (oS (fC (.int 1))) oN)) (gN 19) (tB (fOp gEq (fCallC 3 F__law_state (aCons (fV 2) (aCons (fV 15) (aCons (fV 19) aNil)))) (fV 15))) (fV 19) [19]))  (sSetF 14 (fIf (tB (fOp gGt (fCall gLen (aCons (fV 16) aNil)) (fC (.int 0)))) (fTup (aFCons (fOp gDgz (fV 13) (fV 15)) (aFCons (fOp gIx (fV 16) (fC (.int 0))) aNil))) (fC .none)))) sNx)))
def l9 : FS := (sSetF 17 (fCallF 1 F_least_going_on (aCons (fV 2) aNil)))
def l10 : FS := (sRetF (fAnd (fOp gEq (fV 17) (fIf (tB (fOp (gIsN false) (fV 14) (fC .none))) (fC .none) (fCallF 1 F_least_lasso (aCons (fV 14) aNil)))) (fOr (fOp (gIsN false) (fV 17) (fC .none)) (fCallC 2 F__law_goes (aCons (fV 2) (aCons (fV 17) aNil))))))
theorem l_eq : B_law = sSq l1 (sSq l2 (sSq l3 (sSq l4 (sSq l5 (sSq l6 (sSq l7 (sSq l8 (sSq l9 l10)))))))) := rfl
def t0 : FS := (sFrzDF 4 (sSetF 6 (fTup (aFCons (fCallC 2 F__law_pick (aCons (fV 1) (aCons (fV 4) aNil))) (aFCons (fCallC 2 F__law_pick (aCons (fV 1) (aFCons (fSlice (fV 4) (oS (fC (.int 1))) oN) aNil))) aNil)))))
def t1 : FS := (sSetF 7 (fCallC 2 F__law_pick (aCons (fV 1) (aFCons (fLst (aCons (fTup (aFCons (fCallC 2 F__law_pick (aCons (fV 1) (aCons (fV 4) aNil))) (aFCons (fCallC 2 F__law_pick (aCons (fV 1) (aFCons (fSlice (fV 4) (oS (fC (.int 1))) oN) aNil))) aNil))) (aCons (fTup (aCons (fOp gAdd (fOp gIx (fV 6) (fC (.int 0))) (fOp gIx (fV 6) (fC (.int 1)))) (aCons (fOp gAdd (fOp gIx (fV 6) (fC (.int 1))) (fOp gIx (fV 6) (fC (.int 1)))) aNil))) (aCons (fTup (aCons (fOp gAdd (fOp gIx (fV 6) (fC (.int 0))) (fSlice (fOp gIx (fV 6) (fC (.int 1))) oN (oS (fC (.int 1))))) (aCons (fOp gAdd (fSlice (fOp gIx (fV 6) (fC (.int 1))) (oS (fC (.int 1))) oN) (fSlice (fOp gIx (fV 6) (fC (.int 1))) oN (oS (fC (.int 1))))) aNil))) aNil)))) aNil))))
def t2 : FS := (sSetF 8 (fOp gEq (fCallC 1 F__law_far (aCons (fV 6) aNil)) (fCallC 1 F__law_far (aCons (fV 7) aNil))))
def t3 : FS := (sIfF (tOrF (tB (fOp gNe (fCallF 2 F_same_lasso (aCons (fV 6) (aCons (fV 7) aNil))) (fV 8))) (tB (fOp gNe (fOp gEq (fCallF 1 F_least_lasso (aCons (fV 6) aNil)) (fCallF 1 F_least_lasso (aCons (fV 7) aNil))) (fV 8)))) (sRetF (fC (.bool false))) sNx)
def t4 : FS := (sSetF 9 (fC .none))
def t5 : FS := (sForF (iR1 (aCons (fOp gAdd (fCall gLen (aCons (fOp gIx (fV 6) (fC (.int 0))) aNil)) (fC (.int 1))) aNil)) (gN 10) (sForF (iR2 (aCons (fC (.int 1)) (aCons (fOp gAdd (fCall gLen (aCons (fOp gIx (fV 6) (fC (.int 1))) aNil)) (fC (.int 1))) aNil))) (gN 11) (sSq (sSetF 12 (fTup (aCons (fSlice (fCallC 1 F__law_far (aCons (fV 6) aNil)) oN (oS (fV 10))) (aCons (fSlice (fCallC 1 F__law_far (aCons (fV 6) aNil)) (oS (fV 10)) (oS (fOp gAdd (fV 10) (fV 11)))) aNil))))  (sSetF 9 (fIf (tAndF (tB (fOp (gIsN false) (fV 9) (fC .none))) (tB (fOp gEq (fCallC 1 F__law_far (aCons (fV 12) aNil)) (fCallC 1 F__law_far (aCons (fV 6) aNil))))) (fV 12) (fV 9))))))
def t6 : FS := (sIfF (tOrF (tB (fOp gNe (fCallF 1 F_least_lasso (aCons (fV 6) aNil)) (fV 9))) (tB (fOp gNe (fMtK isSB gJoin (fC (.str "")) (aCons (fLc (iR1 (aCons (fC (.int 20)) aNil)) (gN 20) tYes (fCallC 2 F_sign_at (aCons (fV 6) (aCons (fV 20) aNil))) [20]) aNil)) (fSlice (fCallC 1 F__law_far (aCons (fV 6) aNil)) oN (oS (fC (.int 20))))))) (sRetF (fC (.bool false))) sNx)
def t7 : FS := (sIfF (tB (fOp gNe (fCallF 2 F_goes_on (aCons (fV 2) (aCons (fV 6) aNil))) (fCallC 2 F__law_goes (aCons (fV 2) (aCons (fV 6) aNil))))) (sRetF (fC (.bool false))) sNx)
theorem l5_eq : l5 = sForF (iR1 (aCons (fC (.int 4)) aNil)) (gN 5) (sSq t0 (sSq t1 (sSq t2 (sSq t3 (sSq t4 (sSq t5 (sSq t6 t7))))))) := rfl
section
variable {M : Mc} {z s q i j n m c k K N p : Nat} {l a b w x y u a' b' : List Nat} {Q : List En} {e : En} {δ : DEnv} {fa fb : FE} {PX : Xn → Prop}
theorem ne_self {d : D} (h1 : shp d = true) (h2 : PyData.eqv d d = true) : gNe (.im d) (.im d) = .ok (.im (.bool false)) := by
  show gd (shp d && shp d) (Tr.ok (R.im (PyData.bool (!PyData.eqv d d)))) = _
  rw [h1, h2]; rfl
theorem ne_bool (b : Bool) : gNe (.im (.bool b)) (.im (.bool b)) = .ok (.im (.bool false)) := by cases b <;> rfl
theorem slice_sn (h : n ≤ l.length) : Txt.slice (tx l) (some (n : Int)) none = tx (l.drop n) := by
  have e : Txt.slice (tx l) (some (n : Int)) none = Txt.slice (tx l) (some ((n : Nat) : Int)) (some ((l.length : Nat) : Int)) := by
    have : Builtin.Str.strSliceIndices (some (n : Int)) none 1 (tx l).length = Builtin.Str.strSliceIndices (some ((n : Nat) : Int)) (some ((l.length : Nat) : Int)) 1 (tx l).length := by
      unfold Builtin.Str.strSliceIndices
      rw [tx_len]
      simp only [show (1 : Int) > 0 by decide, if_true]
      congr 1
      all_goals first | omega | (simp only [Int.natCast_nonneg]; omega) | trace_state
    unfold Txt.slice
    rw [this]
  rw [e, slice_ss h (Nat.le_refl _), List.take_of_length_le (by rw [List.length_drop]; exact Nat.le_refl _)]
theorem slice_drop_ok {f fk : FE} {k : Nat} (hf : f δ = .ok (.im (.str (tx l)))) (hk : fk δ = .ok (.im (.int (k : Nat)))) (hl : l.length ≤ 1000) (hk2 : k ≤ l.length) : fSlice f (oS fk) oN δ = .ok (.im (.str (tx (l.drop k)))) := by
  unfold fSlice
  rw [hf, bind_ok]
  have e : oS fk δ = .ok (some ((k : Nat) : Int)) := by unfold oS; rw [hk]; rfl
  rw [e, bind_ok]
  show gd (szOk (tx l).length) (Tr.ok (R.im (PyData.str (Txt.slice (tx l) (some ((k : Nat) : Int)) none)))) = _
  rw [slice_sn hk2, tx_len]
  unfold szOk
  rw [decide_eq_true (by omega)]
  rfl
theorem slice_mid_ok {f fk fj : FE} {i j : Nat} (hf : f δ = .ok (.im (.str (tx l)))) (hk : fk δ = .ok (.im (.int (i : Nat)))) (hj : fj δ = .ok (.im (.int (j : Nat)))) (hl : l.length ≤ 1000) (h1 : i ≤ j) (h2 : j ≤ l.length) : fSlice f (oS fk) (oS fj) δ = .ok (.im (.str (tx ((l.drop i).take (j - i))))) := by
  unfold fSlice
  rw [hf, bind_ok]
  have e : oS fk δ = .ok (some ((i : Nat) : Int)) := by unfold oS; rw [hk]; rfl
  have e2 : oS fj δ = .ok (some ((j : Nat) : Int)) := by unfold oS; rw [hj]; rfl
  rw [e, bind_ok, e2, bind_ok]
  show gd (szOk (tx l).length) (Tr.ok (R.im (PyData.str (Txt.slice (tx l) (some ((i : Nat) : Int)) (some ((j : Nat) : Int)))))) = _
  rw [slice_ss h1 h2, tx_len]
  unfold szOk
  rw [decide_eq_true (by omega)]
  rfl
/-! good lassos -/
structure GoodL (a b : List Nat) : Prop where
  b0 : b ≠ []
  la : a.length ≤ 6
  lb : b.length ≤ 6
  sa : Sm a
  sb : Sm b
  cf : cF (far a b) = some (leastF a b)
theorem GoodL.sf (g : GoodL a b) : Sm (far a b) := sm_take (sm_app g.sa (sm_rep g.sb))
theorem GoodL.s1 (g : GoodL a b) : Sm (leastF a b).1 := fun c hc => g.sa c ((least_in g.b0).2.2.2.1 c hc)
theorem GoodL.s2 (g : GoodL a b) : Sm (leastF a b).2 := fun c hc => g.sb c ((least_in g.b0).2.2.2.2 c hc)
theorem GoodL.flen (g : GoodL a b) : (far a b).length = 48 := by
  have := rep_ge (n := 60) g.b0
  unfold far
  rw [List.length_take, List.length_append]
  omega
theorem far_least (hb : b ≠ []) (hb' : b' ≠ []) (e : leastF a b = leastF a' b') : far a b = far a' b' := by
  rw [far_pre hb, far_pre hb', ← pre_least hb, ← pre_least hb', e]
theorem GoodL.same (g : GoodL a b) (g' : GoodL a' b') : decide (leastF a b = leastF a' b') = decide (far a b = far a' b') := by
  refine decide_eq_decide.mpr ⟨far_least g.b0 g'.b0, fun e => ?_⟩
  have h1 := g.cf
  rw [e, g'.cf] at h1
  exact (Option.some.inj h1).symm
theorem ws3_eq : (allW 3 3).2 = ws3 := by decide +kernel
theorem all_mono (hK : K ≤ 3) (h : w ∈ (allW K 3).2) : w ∈ ws3 := by
  rw [← ws3_eq, mem_all]
  obtain ⟨h1, h2⟩ := (mem_all 3 w).mp h
  exact ⟨h1, fun c hc => Nat.lt_of_lt_of_le (h2 c hc) hK⟩
theorem all_mono1 (hK : K ≤ 3) (h : w ∈ (allW K 3).2.drop 1) : w ∈ ws3.drop 1 := by
  rw [← ws3_eq, mem_drop1]
  obtain ⟨h0, h1, h2⟩ := mem_drop1.mp h
  exact ⟨h0, h1, fun c hc => Nat.lt_of_lt_of_le (h2 c hc) hK⟩
theorem good_of (ha : a ∈ ws3) (hb : b ∈ ws3.drop 1) : GoodL a b ∧ a.length ≤ 3 ∧ b.length ≤ 3 := by
  have h1 := List.all_eq_true.mp (List.all_eq_true.mp chk1_ok a ha) b hb
  rw [← ws3_eq] at ha hb
  obtain ⟨a1, a2⟩ := (mem_all 3 a).mp ha
  obtain ⟨b0, b1, b2⟩ := mem_drop1.mp hb
  exact ⟨⟨b0, by omega, by omega, fun c hc => by have := a2 c hc; omega, fun c hc => by have := b2 c hc; omega, beq_iff_eq.mp h1⟩, a1, b1⟩
theorem good_first (ha : a ∈ ws3) (hb : b ∈ ws3.drop 1) : (candF a.length b.length (far a b)).find? (fun p => far p.1 p.2 == far a b) = some (leastF a b) :=
  beq_iff_eq.mp (List.all_eq_true.mp (List.all_eq_true.mp chk2_ok a ha) b hb)
theorem good_var (ha : a ∈ ws3) (hb : b ∈ ws3.drop 1) : GoodL (a ++ b) (b ++ b) ∧ GoodL (a ++ b.take 1) (b.drop 1 ++ b.take 1) := by
  obtain ⟨g, la, lb⟩ := good_of ha hb
  have h3 := List.all_eq_true.mp (List.all_eq_true.mp chk3_ok a ha) b hb
  rw [Bool.and_eq_true, beq_iff_eq, beq_iff_eq] at h3
  have n1 : b ++ b ≠ [] := fun e => g.b0 (List.append_eq_nil_iff.mp e).1
  have n2 : b.drop 1 ++ b.take 1 ≠ [] := fun e => g.b0 (by rw [← List.take_append_drop 1 b, (List.append_eq_nil_iff.mp e).1, (List.append_eq_nil_iff.mp e).2]; rfl)
  refine ⟨⟨n1, by rw [List.length_append]; omega, by rw [List.length_append]; omega, sm_app g.sa g.sb, sm_app g.sb g.sb, ?_⟩, ⟨n2, by rw [List.length_append, List.length_take]; omega, by rw [List.length_append, List.length_take, List.length_drop]; omega, sm_app g.sa (sm_take g.sb), sm_app (fun c hc => g.sb c (List.mem_of_mem_drop hc)) (sm_take g.sb), ?_⟩⟩
  · rw [far_least n1 g.b0 h3.1, h3.1]; exact g.cf
  · rw [far_least n2 g.b0 h3.2, h3.2]; exact g.cf
theorem GoodL.least (g : GoodL a b) : F_least_lasso [.im (encL a b)] = .ok (.im (encL (leastF a b).1 (leastF a b).2)) := least_ok g.b0 (by have := g.la; omega) (by have := g.lb; omega) g.sa g.sb
theorem GoodL.far (g : GoodL a b) : F__law_far [.im (encL a b)] = .ok (.im (.str (tx (far a b)))) := law_far_ok (by have := g.la; omega) (by have := g.lb; omega)
theorem eq_P {p q : List Nat × List Nat} : (decide (p.1 = q.1) && decide (p.2 = q.2)) = decide (p = q) := by
  rw [Bool.eq_iff_iff, Bool.and_eq_true, decide_eq_true_iff, decide_eq_true_iff, decide_eq_true_iff, Prod.ext_iff]
def lv (M : Mc) (a4 a5 a6 a7 a8 a9 a10 a11 a12 : Option SV) : DEnv := [none, some .drw, some (.im M.enc), some (.im (.str M.al)), a4, a5, a6, a7, a8, a9, a10, a11, a12, none, none, none, none, none, none, none, none]
variable {a4 a5 a6 a7 a8 a9 a10 a11 a12 : Option SV}
def W3 (M : Mc) : List D := (allW M.K 3).2.map fun w => .str (tx w)
theorem W3_len (h : M.Ok) : (W3 M).length ≤ 40 ∧ 2 ≤ (W3 M).length := by
  unfold W3
  rw [List.length_map]
  rcases h.k with e | e | e <;> rw [e] <;> decide +kernel
theorem pick_W (h : M.Ok) : (F__law_pick [.drw, .im (.list (W3 M))]).sat (fun r => ∃ a ∈ (allW M.K 3).2, r = .im (.str (tx a))) PX := by
  have hl := W3_len h
  refine Tr.sat_of (pick_list (fun z => by rw [z] at hl; simp at hl) (by omega)) fun r ⟨d, hd, er⟩ => ?_
  obtain ⟨a, ha, rfl⟩ := List.mem_map.mp hd
  exact ⟨a, ha, er⟩
theorem pick_W1 (h : M.Ok) : (F__law_pick [.drw, .im (.list ((W3 M).drop 1))]).sat (fun r => ∃ a ∈ (allW M.K 3).2.drop 1, r = .im (.str (tx a))) PX := by
  have hl := W3_len h
  refine Tr.sat_of (pick_list (fun z => by have := congrArg List.length z; rw [List.length_drop] at this; simp at this; omega) (by rw [List.length_drop]; omega)) fun r ⟨d, hd, er⟩ => ?_
  unfold W3 at hd
  rw [← List.map_drop] at hd
  obtain ⟨a, ha, rfl⟩ := List.mem_map.mp hd
  exact ⟨a, ha, er⟩
def pkE : FE := fTup (aFCons (fCallC 2 F__law_pick (aCons (fV 1) (aCons (fV 4) aNil))) (aFCons (fCallC 2 F__law_pick (aCons (fV 1) (aFCons (fSlice (fV 4) (oS (fC (.int 1))) oN) aNil))) aNil))
theorem pk_ok (h : M.Ok) (h1 : fV 1 δ = .ok .drw) (h4 : fV 4 δ = .ok (.im (.list (W3 M)))) : (pkE δ).sat (fun r => ∃ a b, a ∈ (allW M.K 3).2 ∧ b ∈ (allW M.K 3).2.drop 1 ∧ r = .im (encL a b)) PX := by
  have hl := W3_len h
  unfold pkE
  refine sat_tup (sat_fcons (sat_callC (sat_ok (a := [R.drw, .im (.list (W3 M))]) (cons_ok h1 (cons_ok h4 rfl)) ⟨rfl, ?_⟩)))
  refine Tr.sat_of (pick_W h) fun r ⟨a, ha, er⟩ => ?_
  subst er
  refine ⟨_, rfl, sat_fcons (sat_callC (sat_cons (sat_ok (a := R.drw) h1 (sat_fcons (sat_ok (a := R.ol ((W3 M).drop 1)) ?_ ⟨_, rfl, sat_ok (a := []) rfl ⟨rfl, ?_⟩⟩)))))⟩
  · unfold fSlice
    rw [h4]
    show Tr.ok (R.ol (cutD (W3 M) (some ((1 : Nat) : Int)) none)) = _
    rw [cut_drop (by omega)]
  · refine Tr.sat_of (pick_W1 h) fun r ⟨b, hb, er⟩ => ?_
    subst er
    exact ⟨_, rfl, sat_ok (a := []) rfl ⟨[.str (tx a), .str (tx b)], rfl, (show 2 ≤ 16777216 by decide), a, b, ha, hb, rfl⟩⟩
theorem t0_ok (h : M.Ok) (h4 : a4 = some (.ol (W3 M)) ∨ a4 = some (.im (.list (W3 M)))) : (t0 (lv M a4 a5 a6 a7 a8 a9 a10 a11 a12)).sat (fun o => ∃ a b, a ∈ (allW M.K 3).2 ∧ b ∈ (allW M.K 3).2.drop 1 ∧ o = .nx (lv M (some (.im (.list (W3 M)))) a5 (some (.im (encL a b))) a7 a8 a9 a10 a11 a12)) PX := by
  have e : t0 (lv M a4 a5 a6 a7 a8 a9 a10 a11 a12) = sSetF 6 pkE (lv M (some (.im (.list (W3 M)))) a5 a6 a7 a8 a9 a10 a11 a12) := by
    rcases h4 with rfl | rfl <;> rfl
  rw [e]
  refine sat_set (Tr.sat_of (pk_ok h rfl rfl) fun r ⟨a, b, ha, hb, er⟩ => ?_)
  subst er
  exact ⟨_, rfl, a, b, ha, hb, rfl⟩
def e2E : FE := fTup (aCons (fOp gAdd (fOp gIx (fV 6) (fC (.int 0))) (fOp gIx (fV 6) (fC (.int 1)))) (aCons (fOp gAdd (fOp gIx (fV 6) (fC (.int 1))) (fOp gIx (fV 6) (fC (.int 1)))) aNil))
def e3E : FE := fTup (aCons (fOp gAdd (fOp gIx (fV 6) (fC (.int 0))) (fSlice (fOp gIx (fV 6) (fC (.int 1))) oN (oS (fC (.int 1))))) (aCons (fOp gAdd (fSlice (fOp gIx (fV 6) (fC (.int 1))) (oS (fC (.int 1))) oN) (fSlice (fOp gIx (fV 6) (fC (.int 1))) oN (oS (fC (.int 1))))) aNil))
theorem t1_eq : t1 = sSetF 7 (fCallC 2 F__law_pick (aCons (fV 1) (aFCons (fLst (aCons pkE (aCons e2E (aCons e3E aNil)))) aNil))) := rfl
theorem ix0 {f : FE} (hf : f δ = .ok (.im (encL a b))) : fOp gIx f (fC (.int 0)) δ = .ok (.im (.str (tx a))) := op_ok hf rfl rfl
theorem ix1 {f : FE} (hf : f δ = .ok (.im (encL a b))) : fOp gIx f (fC (.int 1)) δ = .ok (.im (.str (tx b))) := op_ok hf rfl rfl
theorem e2_ok (h6 : fV 6 δ = .ok (.im (encL a b))) (la : a.length ≤ 6) (lb : b.length ≤ 6) : e2E δ = .ok (.im (encL (a ++ b) (b ++ b))) :=
  tup2 (cons_ok (add_S (ix0 h6) (ix1 h6) (by omega)) (cons_ok (add_S (ix1 h6) (ix1 h6) (by omega)) rfl))
theorem e3_ok (h6 : fV 6 δ = .ok (.im (encL a b))) (la : a.length ≤ 6) (lb : b.length ≤ 6) (hb : 0 < b.length) : e3E δ = .ok (.im (encL (a ++ b.take 1) (b.drop 1 ++ b.take 1))) :=
  tup2 (cons_ok (add_S (ix0 h6) (slice_take_ok (k := 1) (ix1 h6) rfl (by omega)) (by rw [List.length_take]; omega)) (cons_ok (add_S (slice_drop_ok (k := 1) (ix1 h6) rfl (by omega) (by omega)) (slice_take_ok (k := 1) (ix1 h6) rfl (by omega)) (by rw [List.length_take, List.length_drop]; omega)) rfl))
end
end K40
set_option Elab.async false
set_option linter.all false
set_option maxRecDepth 100000
set_option maxHeartbeats 400000
namespace K40
open PySem PySem.Spec L2 DW FW
section
variable {M : Mc} {z s q i j n m c k K N p : Nat} {l a b w x y u a' b' : List Nat} {Q : List En} {e : En} {δ : DEnv} {fa fb : FE} {PX : Xn → Prop}
variable {a4 a5 a6 a7 a8 a9 a10 a11 a12 : Option SV}
theorem t1_ok (h : M.Ok) (h1 : fV 1 δ = .ok .drw) (h4 : fV 4 δ = .ok (.im (.list (W3 M)))) (h6 : fV 6 δ = .ok (.im (encL a b))) (ha : a ∈ (allW M.K 3).2) (hb : b ∈ (allW M.K 3).2.drop 1) : (t1 δ).sat (fun o => ∃ (a' b' : List Nat), GoodL a' b' ∧ o = .nx (δ.set 7 (some (.im (encL a' b'))))) PX := by
  have hK : M.K ≤ 3 := by have := h.k; omega
  obtain ⟨g, la, lb⟩ := good_of (all_mono hK ha) (all_mono1 hK hb)
  obtain ⟨g1, g2⟩ := good_var (all_mono hK ha) (all_mono1 hK hb)
  have hB : 0 < b.length := List.length_pos_iff.mpr g.b0
  rw [t1_eq]
  refine sat_set (sat_callC (sat_cons (sat_ok (a := R.drw) h1 (sat_fcons ?_))))
  refine Tr.sat_bind.mpr (sat_cons (Tr.sat_of (pk_ok h h1 h4) fun r ⟨c, d, hc, hd, er⟩ => ?_))
  subst er
  refine sat_ok (a := [.im (encL (a ++ b) (b ++ b)), .im (encL (a ++ b.take 1) (b.drop 1 ++ b.take 1))]) (cons_ok (e2_ok h6 (by omega) (by omega)) (cons_ok (e3_ok h6 (by omega) (by omega) hB) rfl)) ?_
  show (Tr.ok (R.ol [encL c d, encL (a ++ b) (b ++ b), encL (a ++ b.take 1) (b.drop 1 ++ b.take 1)])).sat _ _
  refine ⟨_, rfl, sat_ok (a := []) rfl ⟨rfl, ?_⟩⟩
  refine Tr.sat_of (pick_list (ds := [encL c d, encL (a ++ b) (b ++ b), encL (a ++ b.take 1) (b.drop 1 ++ b.take 1)]) (fun z => by cases z) (show 3 ≤ 1000 by decide)) fun r ⟨f, hf, er⟩ => ?_
  subst er
  rcases List.mem_cons.mp hf with z | hf
  · exact ⟨_, rfl, c, d, (good_of (all_mono hK hc) (all_mono1 hK hd)).1, by rw [z]⟩
  · rcases List.mem_cons.mp hf with z | hf
    · exact ⟨_, rfl, _, _, g1, by rw [z]⟩
    · exact ⟨_, rfl, _, _, g2, by rw [List.mem_singleton.mp hf]⟩
end
end K40
set_option Elab.async false
set_option linter.all false
set_option maxRecDepth 100000
set_option maxHeartbeats 1000000
/-! a turn, its parts 2 to 7 -/
namespace K40
open PySem PySem.Spec L2 DW FW
section
variable {M : Mc} {z s q i j n m c k K N p : Nat} {l a b w x y u a' b' : List Nat} {Q : List En} {e : En} {δ : DEnv} {fa fb : FE} {PX : Xn → Prop}
variable {a4 a5 a6 a7 a8 a9 a10 a11 a12 : Option SV}
theorem t2_ok (g : GoodL a b) (g' : GoodL a' b') : t2 (lv M a4 a5 (some (.im (encL a b))) (some (.im (encL a' b'))) a8 a9 a10 a11 a12) = .ok (.nx (lv M a4 a5 (some (.im (encL a b))) (some (.im (encL a' b'))) (some (.im (.bool (decide (far a b = far a' b'))))) a9 a10 a11 a12)) :=
  set_ok (op_ok (callC_ok (cons_ok rfl rfl) rfl g.far) (callC_ok (cons_ok rfl rfl) rfl g'.far) (eq_tx g.sf g'.sf)) rfl
theorem t3_ok (g : GoodL a b) (g' : GoodL a' b') : t3 (lv M a4 a5 (some (.im (encL a b))) (some (.im (encL a' b'))) (some (.im (.bool (decide (far a b = far a' b'))))) a9 a10 a11 a12) = .ok (.nx (lv M a4 a5 (some (.im (encL a b))) (some (.im (encL a' b'))) (some (.im (.bool (decide (far a b = far a' b'))))) a9 a10 a11 a12)) := by
  have la := g.la
  have lb := g.lb
  have la' := g'.la
  have lb' := g'.lb
  have e1 := same_ok g.b0 (by omega) (by omega) g.sa g.sb g'.b0 (by omega) (by omega) g'.sa g'.sb g.s1 g.s2 g'.s1 g'.s2
  rw [g.same g'] at e1
  have e2 := eq_L g.s1 g.s2 g'.s1 g'.s2
  rw [eq_P, g.same g'] at e2
  exact (if_f (tOr_f (tB_ok (op_ok (callF_ok (cons_ok rfl (cons_ok rfl rfl)) rfl e1) rfl (ne_bool _))) (tB_ok (op_ok (op_ok (callF_ok (cons_ok rfl rfl) rfl g.least) (callF_ok (cons_ok rfl rfl) rfl g'.least) e2) rfl (ne_bool _))))).trans rfl
def encB : Option (List Nat × List Nat) → D
  | none => .none
  | some p => encL p.1 p.2
def cand (f : List Nat) (s k : Nat) : List Nat × List Nat := (f.take s, (f.drop s).take k)
def pF (a b : List Nat) (p : List Nat × List Nat) : Bool := far p.1 p.2 == far a b
def in5 : FS := (sSq (sSetF 12 (fTup (aCons (fSlice (fCallC 1 F__law_far (aCons (fV 6) aNil)) oN (oS (fV 10))) (aCons (fSlice (fCallC 1 F__law_far (aCons (fV 6) aNil)) (oS (fV 10)) (oS (fOp gAdd (fV 10) (fV 11)))) aNil))))  (sSetF 9 (fIf (tAndF (tB (fOp (gIsN false) (fV 9) (fC .none))) (tB (fOp gEq (fCallC 1 F__law_far (aCons (fV 12) aNil)) (fCallC 1 F__law_far (aCons (fV 6) aNil))))) (fV 12) (fV 9))))
def out5 : FS := (sForF (iR2 (aCons (fC (.int 1)) (aCons (fOp gAdd (fCall gLen (aCons (fOp gIx (fV 6) (fC (.int 1))) aNil)) (fC (.int 1))) aNil))) (gN 11) in5)
theorem sm_drop (h : Sm l) : Sm (l.drop n) := fun c hc => h c (List.mem_of_mem_drop hc)
theorem find_snoc {α : Type} {p : α → Bool} {l : List α} {x : α} : (l ++ [x]).find? p = match l.find? p with
    | some y => some y
    | none => if p x then some x else none := by
  rw [List.find?_append]
  cases l.find? p with
  | some y => rfl
  | none =>
    rw [List.find?_cons]
    cases p x <;> rfl
theorem in5_ok (g : GoodL a b) {L : List (List Nat × List Nat)} (hs : s ≤ 20) (hk : k ≤ 20) : ∃ y12, in5 (lv M a4 a5 (some (.im (encL a b))) a7 a8 (some (.im (encB (L.find? (pF a b))))) (some (.im (encI s))) (some (.im (encI k))) a12) =
    .ok (.nx (lv M a4 a5 (some (.im (encL a b))) a7 a8 (some (.im (encB ((L ++ [cand (far a b) s k]).find? (pF a b))))) (some (.im (encI s))) (some (.im (encI k))) y12)) := by
  have fl := g.flen
  have hf : ∀ {δ : DEnv}, fV 6 δ = .ok (.im (encL a b)) → fCallC 1 F__law_far (aCons (fV 6) aNil) δ = .ok (.im (.str (tx (far a b)))) := fun h => callC_ok (cons_ok h rfl) rfl g.far
  have e12 : (sSetF 12 (fTup (aCons (fSlice (fCallC 1 F__law_far (aCons (fV 6) aNil)) oN (oS (fV 10))) (aCons (fSlice (fCallC 1 F__law_far (aCons (fV 6) aNil)) (oS (fV 10)) (oS (fOp gAdd (fV 10) (fV 11)))) aNil)))) (lv M a4 a5 (some (.im (encL a b))) a7 a8 (some (.im (encB (L.find? (pF a b))))) (some (.im (encI s))) (some (.im (encI k))) a12) =
      .ok (.nx (lv M a4 a5 (some (.im (encL a b))) a7 a8 (some (.im (encB (L.find? (pF a b))))) (some (.im (encI s))) (some (.im (encI k))) (some (.im (encL (cand (far a b) s k).1 (cand (far a b) s k).2))))) := by
    have e2 := slice_mid_ok (δ := lv M a4 a5 (some (.im (encL a b))) a7 a8 (some (.im (encB (L.find? (pF a b))))) (some (.im (encI s))) (some (.im (encI k))) a12) (f := fCallC 1 F__law_far (aCons (fV 6) aNil)) (fk := fV 10) (fj := fOp gAdd (fV 10) (fV 11)) (i := s) (j := s + k) (hf rfl) rfl (op_ok rfl rfl rfl) (by omega) (by omega) (by omega)
    rw [Nat.add_sub_cancel_left] at e2
    exact set_ok (tup2 (cons_ok (slice_take_ok (k := s) (hf rfl) rfl (by omega)) (cons_ok e2 rfl))) rfl
  have hc1 : ((cand (far a b) s k).1).length ≤ 1000 := by show ((far a b).take s).length ≤ _; rw [List.length_take]; omega
  have hc2 : ((cand (far a b) s k).2).length ≤ 1000 := by show (((far a b).drop s).take k).length ≤ _; rw [List.length_take]; omega
  have hs1 : Sm (cand (far a b) s k).1 := sm_take g.sf
  have hs2 : Sm (cand (far a b) s k).2 := sm_take (sm_drop g.sf)
  have ef := law_far_ok hc1 hc2
  generalize hcd : cand (far a b) s k = cd at e12 hs1 hs2 ef
  refine ⟨_, (sq_nx e12).trans (set_ok (r := .im (encB ((L ++ [cd]).find? (pF a b)))) ?_ rfl)⟩
  have e2 : tB (fOp gEq (fCallC 1 F__law_far (aCons (fV 12) aNil)) (fCallC 1 F__law_far (aCons (fV 6) aNil))) (lv M a4 a5 (some (.im (encL a b))) a7 a8 (some (.im (encB (L.find? (pF a b))))) (some (.im (encI s))) (some (.im (encI k))) (some (.im (encL cd.1 cd.2)))) = .ok (pF a b cd) := by
    have : pF a b cd = decide (far cd.1 cd.2 = far a b) := by unfold pF; rw [Bool.eq_iff_iff, beq_iff_eq, decide_eq_true_iff]
    rw [this]
    exact tB_ok (op_ok (callC_ok (cons_ok rfl rfl) rfl ef) (hf rfl) (eq_tx (sm_take (sm_app hs1 (sm_rep hs2))) g.sf))
  rw [find_snoc]
  cases hL : L.find? (pF a b) with
  | some y =>
    rw [hL] at e2
    exact fIf_f (tAnd_f rfl) rfl
  | none =>
    rw [hL] at e2
    cases hp : pF a b cd with
    | true =>
      rw [hp] at e2
      exact fIf_t (tAnd_t rfl e2) rfl
    | false =>
      rw [hp] at e2
      exact fIf_f (tAnd_t rfl e2) rfl
theorem out5_ok (g : GoodL a b) {L : List (List Nat × List Nat)} (hs : s ≤ 20) : ∃ y11 y12, out5 (lv M a4 a5 (some (.im (encL a b))) a7 a8 (some (.im (encB (L.find? (pF a b))))) (some (.im (encI s))) a11 a12) =
    .ok (.nx (lv M a4 a5 (some (.im (encL a b))) a7 a8 (some (.im (encB ((L ++ (List.range' 1 b.length).map (cand (far a b) s)).find? (pF a b))))) (some (.im (encI s))) y11 y12)) := by
  have lb := g.lb
  obtain ⟨δ', e1, y11, y12, e2⟩ := forF_ix0 (g := gN 11) (b := in5) (δ := lv M a4 a5 (some (.im (encL a b))) a7 a8 (some (.im (encB (L.find? (pF a b))))) (some (.im (encI s))) a11 a12)
    (fun k δ => ∃ y11 y12, δ = lv M a4 a5 (some (.im (encL a b))) a7 a8 (some (.im (encB ((L ++ (List.range' 1 k).map (cand (far a b) s)).find? (pF a b))))) (some (.im (encI s))) y11 y12) ((List.range' 1 b.length).map encI) ⟨a11, a12, by rw [show List.range' 1 0 = [] from rfl, List.map_nil, List.append_nil]⟩ (by
      rintro k d δ hd ⟨y11, y12, rfl⟩
      have hk := (List.getElem?_eq_some_iff.mp hd).1
      rw [List.length_map, List.length_range'] at hk
      rw [List.getElem?_map, List.getElem?_range' hk] at hd
      obtain rfl := Option.some.inj hd
      rw [Nat.one_mul]
      obtain ⟨z12, e3⟩ := in5_ok (M := M) (a4 := a4) (a5 := a5) (a7 := a7) (a8 := a8) (a12 := y12) g (L := L ++ (List.range' 1 k).map (cand (far a b) s)) (s := s) (k := 1 + k) hs (by omega)
      refine ⟨_, _, rfl, e3, some (.im (encI (1 + k))), z12, ?_⟩
      rw [List.append_assoc, List.range'_1_concat, List.map_append]
      rfl)
  subst e2
  rw [List.length_map, List.length_range'] at e1
  exact ⟨y11, y12, for_ok (R2_ok (m := b.length) (cons_ok rfl (cons_ok (op_ok (len_tx' (w := b) (by omega) (ix1 rfl)) rfl rfl) rfl)) (by omega)) e1⟩
theorem t5_ok (g : GoodL a b) (hf : (candF a.length b.length (far a b)).find? (fun p => far p.1 p.2 == far a b) = some (leastF a b)) : ∃ y10 y11 y12, t5 (lv M a4 a5 (some (.im (encL a b))) a7 a8 (some (.im .none)) a10 a11 a12) =
    .ok (.nx (lv M a4 a5 (some (.im (encL a b))) a7 a8 (some (.im (encL (leastF a b).1 (leastF a b).2))) y10 y11 y12)) := by
  have la := g.la
  obtain ⟨δ', e1, y10, y11, y12, e2⟩ := forF_ix0 (g := gN 10) (b := out5) (δ := lv M a4 a5 (some (.im (encL a b))) a7 a8 (some (.im .none)) a10 a11 a12)
    (fun s δ => ∃ y10 y11 y12, δ = lv M a4 a5 (some (.im (encL a b))) a7 a8 (some (.im (encB (((List.range s).flatMap fun s => (List.range' 1 b.length).map (cand (far a b) s)).find? (pF a b))))) y10 y11 y12) ((List.range (a.length + 1)).map encI) ⟨a10, a11, a12, rfl⟩ (by
      rintro s d δ hd ⟨y10, y11, y12, rfl⟩
      obtain ⟨hs, rfl⟩ := range_at hd
      obtain ⟨z11, z12, e3⟩ := out5_ok (M := M) (a4 := a4) (a5 := a5) (a7 := a7) (a8 := a8) (a11 := y11) (a12 := y12) g (L := (List.range s).flatMap fun s => (List.range' 1 b.length).map (cand (far a b) s)) (s := s) (by omega)
      refine ⟨_, _, rfl, e3, some (.im (encI s)), z11, z12, ?_⟩
      rw [List.range_succ, List.flatMap_append, List.flatMap_singleton])
  subst e2
  rw [List.length_map, List.length_range] at e1
  have e3 : ((List.range (a.length + 1)).flatMap fun s => (List.range' 1 b.length).map (cand (far a b) s)).find? (pF a b) = some (leastF a b) := hf
  rw [e3] at e1
  exact ⟨y10, y11, y12, for_ok (R1_ok (m := a.length + 1) (cons_ok (op_ok (len_tx' (w := a) (by omega) (ix0 rfl)) rfl rfl) rfl) (by omega)) e1⟩
theorem join_tx' : ∀ (cs : List Nat), Str.join (tx []) (cs.map fun c => tx [c]) = tx cs
  | [] => rfl
  | [c] => rfl
  | c :: c' :: r => by
    have e : ∀ a b : List Nat, tx a ++ tx [] ++ tx b = tx (a ++ b) := fun a b => by rw [tx_app, tx_app, List.append_nil]
    show tx [c] ++ tx [] ++ Str.join (tx []) ((c' :: r).map fun c => tx [c]) = _
    rw [join_tx' (c' :: r), e]
    rfl
theorem join_tx {cs : List Nat} : Txt.join (tx []) (cs.map fun c => tx [c]) = tx cs := (StrLaws.glued_eq_join _ _).trans (join_tx' cs)
theorem join_ok {cs : List Nat} (h : cs.length ≤ 1000) : gJoin (.im (.str (tx []))) [.ol (cs.map fun c => PyData.str (tx [c]))] = .ok (.im (.str (tx cs))) := by
  have e1 : strsOf (cs.map fun c => PyData.str (tx [c])) = some (cs.map fun c => tx [c]) := by
    have := strsOf_map (cs.map fun c => tx [c])
    rw [List.map_map] at this
    exact this
  show (ofO (strsOf _)).bind _ = _
  rw [e1]
  show gd (szOk _) _ = _
  have e2 : ((cs.map fun c => tx [c]).map (·.length)).sum = cs.length := by
    rw [List.map_map]
    have : ∀ l : List Nat, (l.map ((fun x : Str => x.length) ∘ fun c => tx [c])).sum = l.length := fun l => by
      induction l with
      | nil => rfl
      | cons a r ih => rw [List.map_cons, List.sum_cons, ih, List.length_cons]; show 1 + _ = _; omega
    exact this cs
  have h1 : szOk (((cs.map fun c => tx [c]).map (·.length)).sum + (cs.map fun c => tx [c]).length * (tx []).length) = true := by
    rw [e2]
    unfold szOk
    refine decide_eq_true ?_
    show cs.length + _ * 0 ≤ _
    omega
  rw [h1, join_tx]
  rfl
theorem t6_ok (g : GoodL a b) {B5 : Option SV} : t6 (lv M a4 a5 (some (.im (encL a b))) a7 a8 (some (.im (encL (leastF a b).1 (leastF a b).2))) a10 a11 a12) = .ok (.nx (lv M a4 a5 (some (.im (encL a b))) a7 a8 (some (.im (encL (leastF a b).1 (leastF a b).2))) a10 a11 a12)) := by
  have la := g.la
  have lb := g.lb
  have fl := g.flen
  have hf : ∀ {δ : DEnv}, fV 6 δ = .ok (.im (encL a b)) → fCallC 1 F__law_far (aCons (fV 6) aNil) δ = .ok (.im (.str (tx (far a b)))) := fun h => callC_ok (cons_ok h rfl) rfl g.far
  have e1 := ne_L g.s1 g.s2 g.s1 g.s2
  rw [decide_eq_true rfl, decide_eq_true rfl] at e1
  have hc : ∀ k, k < 20 → (far a b)[k]? = some ((far a b).getD k 0) ∧ F_sign_at [.im (encL a b), .im (.int (k : Nat))] = .ok (.im (.str (tx [(far a b).getD k 0]))) := fun k hk => by
    obtain ⟨c, h1, h2⟩ := sign_at_ok (a := a) g.b0 g.sb (by omega) (by omega) (k := k) (by omega)
    have : (far a b).getD k 0 = c := by rw [List.getD_eq_getElem?_getD, h1]; rfl
    rw [this]
    exact ⟨h1, h2⟩
  have e20 : (List.range 20).map (fun k => (far a b).getD k 0) = (far a b).take 20 := by
    apply List.ext_getElem?
    intro k
    rw [List.getElem?_map, List.getElem?_take]
    by_cases hk : k < 20
    · rw [List.getElem?_range hk, if_pos hk, (hc k hk).1]; rfl
    · rw [if_neg hk, List.getElem?_eq_none (by rw [List.length_range]; omega)]; rfl
  have ej := join_ok (cs := (List.range 20).map fun k => (far a b).getD k 0) (by rw [List.length_map, List.length_range]; omega)
  rw [List.map_map] at ej
  refine (if_f (tOr_f (tB_ok (op_ok (callF_ok (cons_ok rfl rfl) rfl g.least) rfl e1)) (tB_ok (op_ok (x := .im (.str (tx ((far a b).take 20)))) (y := .im (.str (tx ((far a b).take 20)))) (mtk_ok (r := .im (.str (tx []))) rfl rfl (cons_ok (flc_ok (e := fun i : Nat => .int (i : Nat)) (h := fun k : Nat => .str (tx [(far a b).getD k 0])) (ts := List.range 20) (R1_ok (m := 20) rfl (by omega)) (by rw [List.length_range]; omega) fun k hk => ?_) rfl) ?_) (slice_take_ok (k := 20) (hf rfl) rfl (by omega)) ?_)))).trans rfl
  · exact ⟨_, _, rfl, callC_ok (cons_ok rfl (cons_ok rfl rfl)) rfl (hc k (List.mem_range.mp hk)).2, rfl⟩
  · rw [← e20]; exact ej
  · rw [ne_tx (sm_take g.sf) (sm_take g.sf), decide_eq_true rfl]; rfl
theorem t7_ok (h : M.Ok) (g : GoodL a b) (ha : ∀ c ∈ a, c < M.K) (hb : ∀ c ∈ b, c < M.K) : t7 (lv M a4 a5 (some (.im (encL a b))) a7 a8 a9 a10 a11 a12) = .ok (.nx (lv M a4 a5 (some (.im (encL a b))) a7 a8 a9 a10 a11 a12)) := by
  have la := g.la
  have lb := g.lb
  have e1 := goes_on_ok h ha hb g.b0
  have e2 := law_goes_ok h ha hb (by omega) (by omega)
  rw [← rep_mul] at e2
  exact (if_f (tB_ok (op_ok (callF_ok (cons_ok rfl (cons_ok rfl rfl)) rfl e1) (callC_ok (cons_ok rfl (cons_ok rfl rfl)) rfl e2) (ne_bool _)))).trans rfl
end
end K40
set_option Elab.async false
set_option linter.all false
set_option maxRecDepth 100000
set_option maxHeartbeats 1000000
/-! the law's end -/
namespace K40
open PySem PySem.Spec L2 DW FW
section
variable {M : Mc} {z s q i j n m c k K N p : Nat} {l a b w x y u a' b' : List Nat} {Q : List En} {e : En} {δ : DEnv} {fa fb : FE} {PX : Xn → Prop}
variable {a4 a5 a6 a7 a8 a9 a10 a11 a12 a13 a14 a15 a16 a17 : Option SV}
/-- sat, not unfolded by the elaborator -/
structure SatB {α : Type} (t : Tr α) (P : α → Prop) (PX : Xn → Prop) : Prop where
  h : t.sat P PX
section
variable {s t b : FS} {δ δ' : DEnv} {PF : Fl → Prop} {g : FG} {f : FE}
theorem sb_sq (h : SatB (s δ) (fun o => ∃ δ', o = .nx δ' ∧ SatB (t δ') PF PX) PX) : SatB (sSq s t δ) PF PX := ⟨sat_sq (Tr.sat_of h.h fun o ⟨δ', e, p⟩ => ⟨δ', e, p.h⟩)⟩
theorem sb_sqo (h : s δ = .ok (.nx δ')) (p : SatB (t δ') PF PX) : SatB (sSq s t δ) PF PX := ⟨sat_sqo h p.h⟩
theorem sb_of {α : Type} {t : Tr α} {P P' : α → Prop} (h : SatB t P PX) (i : ∀ a, P a → P' a) : SatB t P' PX := ⟨Tr.sat_of h.h i⟩
theorem sb_ok {α : Type} {t : Tr α} {a : α} {P : α → Prop} (h : t = .ok a) (p : P a) : SatB t P PX := ⟨sat_ok h p⟩
theorem sb_set (h : SatB (f δ) (fun r => ∃ v, r.sv = some v ∧ PF (.nx (δ.set i (some v)))) PX) : SatB (sSetF i f δ) PF PX := ⟨sat_set h.h⟩
theorem sb_callC {faa : FA} {F : FD} {P : R → Prop} {rs : List R} (e : faa δ = .ok rs) (hp : (rs.all plainR && decide (rs.length = n)) = true) (h : SatB (F rs) P fun _ => False) : SatB (fCallC n F faa δ) P PX := ⟨sat_callC (sat_ok e ⟨hp, h.h⟩)⟩
theorem sb_for {fi : FI} {items : List D} (Inv : Nat → DEnv → Prop) (hi : fi δ = .ok items) (h0 : Inv 0 δ) (hs : ∀ i d δ, items[i]? = some d → Inv i δ → ∃ δ1, g d δ = .ok δ1 ∧ SatB (b δ1) (fun o => ∃ δ2, o = .nx δ2 ∧ Inv (i + 1) δ2) PX) (hp : ∀ δ', Inv items.length δ' → PF (.nx δ')) : SatB (sForF fi g b δ) PF PX :=
  ⟨sat_for Inv hi h0 (fun i d δ hd hI => let ⟨δ1, e, p⟩ := hs i d δ hd hI; ⟨δ1, e, p.h⟩) hp⟩
end
theorem turn2 (h : M.Ok) (ha : a ∈ (allW M.K 3).2) (hb : b ∈ (allW M.K 3).2.drop 1) (g' : GoodL a' b') : ∃ y8 y9 y10 y11 y12, (sSq t2 (sSq t3 (sSq t4 (sSq t5 (sSq t6 t7))))) (lv M a4 a5 (some (.im (encL a b))) (some (.im (encL a' b'))) a8 a9 a10 a11 a12) = .ok (.nx (lv M a4 a5 (some (.im (encL a b))) (some (.im (encL a' b'))) y8 y9 y10 y11 y12)) := by
  have hK : M.K ≤ 3 := by have := h.k; omega
  obtain ⟨g, _, _⟩ := good_of (all_mono hK ha) (all_mono1 hK hb)
  obtain ⟨y10, y11, y12, e5⟩ := t5_ok (M := M) (a4 := a4) (a5 := a5) (a7 := some (.im (encL a' b'))) (a8 := some (.im (.bool (decide (far a b = far a' b'))))) (a10 := a10) (a11 := a11) (a12 := a12) g (good_first (all_mono hK ha) (all_mono1 hK hb))
  exact ⟨_, _, _, _, _, (sq_nx (t2_ok g g')).trans ((sq_nx (t3_ok g g')).trans ((sq_nx (δ' := lv M a4 a5 (some (.im (encL a b))) (some (.im (encL a' b'))) (some (.im (.bool (decide (far a b = far a' b'))))) (some (.im .none)) a10 a11 a12) rfl).trans ((sq_nx e5).trans ((sq_nx (t6_ok g (B5 := none))).trans (t7_ok h g ((mem_all 3 a).mp ha).2 (mem_drop1.mp hb).2.2)))))⟩
theorem turn1 (h : M.Ok) (ha : a ∈ (allW M.K 3).2) (hb : b ∈ (allW M.K 3).2.drop 1) (hδ : δ = lv M (some (.im (.list (W3 M)))) a5 (some (.im (encL a b))) a7 a8 a9 a10 a11 a12) : SatB ((sSq t1 (sSq t2 (sSq t3 (sSq t4 (sSq t5 (sSq t6 t7)))))) δ) (fun o => ∃ δ2, o = .nx δ2 ∧ ∃ y5 y6 y7 y8 y9 y10 y11 y12, δ2 = lv M (some (.im (.list (W3 M)))) y5 y6 y7 y8 y9 y10 y11 y12) PX :=
  sb_sq (sb_of ⟨t1_ok h (by rw [hδ]; rfl) (by rw [hδ]; rfl) (by rw [hδ]; rfl) ha hb⟩ fun o ho => by
    obtain ⟨a', b', g', eo⟩ := ho
    obtain ⟨y8, y9, y10, y11, y12, e2⟩ := turn2 (a4 := some (.im (.list (W3 M)))) (a5 := a5) (a8 := a8) (a9 := a9) (a10 := a10) (a11 := a11) (a12 := a12) h ha hb g'
    refine ⟨_, eo, sb_ok (a := .nx (lv M (some (.im (.list (W3 M)))) a5 (some (.im (encL a b))) (some (.im (encL a' b'))) y8 y9 y10 y11 y12)) ?_ ⟨_, rfl, _, _, _, _, _, _, _, _, rfl⟩⟩
    rw [hδ]
    exact e2)
theorem t0_ok' (h : M.Ok) (h4 : a4 = some (.ol (W3 M)) ∨ a4 = some (.im (.list (W3 M)))) (hδ : δ = lv M a4 a5 a6 a7 a8 a9 a10 a11 a12) : SatB (t0 δ) (fun o => ∃ a b, a ∈ (allW M.K 3).2 ∧ b ∈ (allW M.K 3).2.drop 1 ∧ o = .nx (lv M (some (.im (.list (W3 M)))) a5 (some (.im (encL a b))) a7 a8 a9 a10 a11 a12)) PX := by
  rw [hδ]
  exact ⟨t0_ok h h4⟩
theorem turn_ok (h : M.Ok) (h4 : a4 = some (.ol (W3 M)) ∨ a4 = some (.im (.list (W3 M)))) (hδ : δ = lv M a4 a5 a6 a7 a8 a9 a10 a11 a12) : SatB ((sSq t0 (sSq t1 (sSq t2 (sSq t3 (sSq t4 (sSq t5 (sSq t6 t7))))))) δ) (fun o => ∃ δ2, o = .nx δ2 ∧ ∃ y5 y6 y7 y8 y9 y10 y11 y12, δ2 = lv M (some (.im (.list (W3 M)))) y5 y6 y7 y8 y9 y10 y11 y12) PX :=
  sb_sq (sb_of (t0_ok' h h4 hδ) fun o ho => by
    obtain ⟨a, b, ha, hb, eo⟩ := ho
    exact ⟨_, eo, turn1 h ha hb rfl⟩)
theorem l5_ok (h : M.Ok) : SatB (l5 (lv M (some (.ol (W3 M))) none none none none none none none none)) (fun o => ∃ δ2, o = .nx δ2 ∧ ∃ a4 y5 y6 y7 y8 y9 y10 y11 y12, δ2 = lv M a4 y5 y6 y7 y8 y9 y10 y11 y12) PX := by
  rw [l5_eq]
  exact sb_for (items := (List.range 4).map fun i => .int (i : Nat)) (fun i δ => ∃ a4 a5 a6 a7 a8 a9 a10 a11 a12, (a4 = some (.ol (W3 M)) ∨ a4 = some (.im (.list (W3 M)))) ∧ δ = lv M a4 a5 a6 a7 a8 a9 a10 a11 a12) (R1_ok (m := 4) rfl (by omega)) ⟨_, none, none, none, none, none, none, none, none, .inl rfl, rfl⟩ (by
    rintro i d δ hd ⟨a4, a5, a6, a7, a8, a9, a10, a11, a12, h4, hδ⟩
    refine ⟨lv M a4 (some (.im d)) a6 a7 a8 a9 a10 a11 a12, by rw [hδ]; rfl, sb_of (turn_ok h h4 rfl) fun o ho => ?_⟩
    obtain ⟨δ2, e1, y5, y6, y7, y8, y9, y10, y11, y12, e2⟩ := ho
    exact ⟨δ2, e1, _, _, _, _, _, _, _, _, _, .inr rfl, e2⟩) fun δ' ho => by
    obtain ⟨a4, a5, a6, a7, a8, a9, a10, a11, a12, h4, hδ⟩ := ho
    exact ⟨δ', rfl, _, _, _, _, _, _, _, _, _, hδ⟩
/-! the last part -/
def lw (M : Mc) (a4 a5 a6 a7 a8 a9 a10 a11 a12 a13 a14 a15 a16 a17 : Option SV) : DEnv := [none, some .drw, some (.im M.enc), some (.im (.str M.al)), a4, a5, a6, a7, a8, a9, a10, a11, a12, a13, a14, a15, a16, a17, none, none, none]
def rD (Q : List En) : D := dKD (Q.map kv)
def dueD (M : Mc) : Option En → D
  | none => .none
  | some e => encL e.2 ((M.back e.1).getD [])
theorem unK_kv : unK ((Q.map kv).map fun kv => (keyD kv.1, kv.2)) = Q.map kv := by
  unfold unK
  induction Q with
  | nil => rfl
  | cons e r ih =>
    have e1 : (((e :: r).map kv).map fun kv => (keyD kv.1, kv.2)).filterMap (fun kv => (DW.keyOf kv.1).map fun k => (k, kv.2)) = kv e :: ((r.map kv).map fun kv => (keyD kv.1, kv.2)).filterMap (fun kv => (DW.keyOf kv.1).map fun k => (k, kv.2)) := rfl
    rw [e1, ih]
    rfl
theorem dgzF_ok (hn : (Q.map (·.1)).Nodup) (h : e ∈ Q) (ha : fa δ = .ok (.im (rD Q))) (hb : fb δ = .ok (.im (.int (e.1 : Nat)))) : fOp gDgz fa fb δ = .ok (.im (.str (tx e.2))) := by
  refine op_ok ha hb ?_
  unfold gDgz
  have h1 : dKz (.im (rD Q)) = some (Q.map kv) := by
    show (if isDK ((Q.map kv).map fun kv => (keyD kv.1, kv.2)) = true then some (unK ((Q.map kv).map fun kv => (keyD kv.1, kv.2))) else none) = _
    rw [unK_kv, if_pos (by cases Q <;> rfl)]
  have : getZ (R.im (rD Q)) (.im (.int (e.1 : Nat))) = some (some (.str (tx e.2))) := by
    unfold getZ
    rw [h1]
    show some (valD (Q.map kv) (.inl ((e.1 : Nat) : Int))) = _
    rw [val_some hn h]
  rw [this]
theorem keys_ok {f : FE} (hf : f δ = .ok (.im (rD Q))) : FW.iKeys f δ = .ok (Q.map st1) := by
  unfold FW.iKeys
  rw [hf]
  show Tr.ok ((dBody ((Q.map kv).map fun kv => (keyD kv.1, kv.2))).map (·.1)) = _
  have : dBody ((Q.map kv).map fun kv => (keyD kv.1, kv.2)) = (Q.map kv).map fun kv => (keyD kv.1, kv.2) := by cases Q <;> rfl
  rw [this, List.map_map, List.map_map]
  rfl
theorem isND_ok {o : Option En} {f : FE} (hf : f δ = .ok (.im (dueD M o))) : tB (fOp (gIsN false) f (fC .none)) δ = .ok o.isNone := by
  refine tB_ok (op_ok hf rfl ?_)
  cases o <;> rfl
def b8 : FS := (sIfF (tAndF (tB (fOp (gInT false) (fV 15) (fOp gIx (fV 2) (fC (.int 2))))) (tB (fOp (gIsN false) (fV 14) (fC .none)))) (sSq (sSetF 16 (fLc (iLb (fSlice (fCallC 2 F__law_all (aCons (fV 3) (aCons (fC (.int 4)) aNil))) (oS (fC (.int 1))) oN)) (gN 19) (tB (fOp gEq (fCallC 3 F__law_state (aCons (fV 2) (aCons (fV 15) (aCons (fV 19) aNil)))) (fV 15))) (fV 19) [19]))  (sSetF 14 (fIf (tB (fOp gGt (fCall gLen (aCons (fV 16) aNil)) (fC (.int 0)))) (fTup (aFCons (fOp gDgz (fV 13) (fV 15)) (aFCons (fOp gIx (fV 16) (fC (.int 0))) aNil))) (fC .none)))) sNx)
theorem l8_eq : l8 = sFrzDF 13 (sForF (FW.iKeys (fV 13)) (gN 15) b8) := rfl
theorem back_list (h : M.Ok) (hq : q < M.tab.length) : (sSetF 16 (fLc (iLb (fSlice (fCallC 2 F__law_all (aCons (fV 3) (aCons (fC (.int 4)) aNil))) (oS (fC (.int 1))) oN)) (gN 19) (tB (fOp gEq (fCallC 3 F__law_state (aCons (fV 2) (aCons (fV 15) (aCons (fV 19) aNil)))) (fV 15))) (fV 19) [19])) (lw M a4 a5 a6 a7 a8 a9 a10 a11 a12 a13 a14 (some (.im (.int (q : Nat)))) a16 a17) =
    .ok (.nx (lw M a4 a5 a6 a7 a8 a9 a10 a11 a12 a13 a14 (some (.im (.int (q : Nat)))) (some (.ol ((M.bws q).map fun w => .str (tx w)))) a17)) := by
  have hlen : ((allW M.K 4).2.drop 1).length ≤ 121 ∧ 1 ≤ (allW M.K 4).2.length := by rcases h.k with e | e | e <;> rw [e] <;> decide +kernel
  refine set_ok (r := .ol ((M.bws q).map fun w => .str (tx w))) (flcIf_ok (e := fun w => .str (tx w)) (h := fun w => .str (tx w)) (ts := (allW M.K 4).2.drop 1) (c := fun w => decide (M.run q w = q)) ?_ (by omega) fun w hw => ?_) rfl
  · unfold iLb fSlice
    rw [callC_ok (r := .ol ((allW M.K 4).2.map fun w => .str (tx w))) (cons_ok rfl (cons_ok rfl rfl)) rfl (all4_ok h.k)]
    show (ofO (R.ol (cutD ((allW M.K 4).2.map fun w => PyData.str (tx w)) (some ((1 : Nat) : Int)) none)).lst) = _
    rw [cut_drop (by rw [List.length_map]; exact hlen.2), List.map_drop]
    rfl
  · obtain ⟨w0, w1, w2⟩ := mem_drop1.mp hw
    refine ⟨_, rfl, tB_ok (op_ok (callC_ok (cons_ok rfl (cons_ok rfl (cons_ok rfl rfl))) rfl (law_state_ok h hq w2)) rfl ?_), fun _ => ⟨_, rfl, rfl⟩⟩
    show gd (shp (.int (M.run q w : Nat)) && shp (.int (q : Nat))) (Tr.ok (R.im (PyData.bool (PyData.eqv (.int (M.run q w : Nat)) (.int (q : Nat)))))) = _
    rw [shp_nat, shp_nat, eqv_nat]; rfl
theorem b8_ok (h : M.Ok) (hn : (Q.map (·.1)).Nodup) (he : e ∈ Q) (hq : e.1 < M.tab.length) {o : Option En} : ∃ y16, b8 (lw M a4 a5 a6 a7 a8 a9 a10 a11 a12 (some (.im (rD Q))) (some (.im (dueD M o))) (some (.im (.int (e.1 : Nat)))) a16 a17) =
    .ok (.nx (lw M a4 a5 a6 a7 a8 a9 a10 a11 a12 (some (.im (rD Q))) (some (.im (dueD M (match o with | some y => some y | none => if M.pE e then some e else none)))) (some (.im (.int (e.1 : Nat)))) y16 a17)) := by
  have hh : tB (fOp (gInT false) (fV 15) (fOp gIx (fV 2) (fC (.int 2)))) (lw M a4 a5 a6 a7 a8 a9 a10 a11 a12 (some (.im (rD Q))) (some (.im (dueD M o))) (some (.im (.int (e.1 : Nat)))) a16 a17) = .ok (M.hit e.1) := tB_ok (hit_ok rfl rfl)
  have hi : tB (fOp (gIsN false) (fV 14) (fC .none)) (lw M a4 a5 a6 a7 a8 a9 a10 a11 a12 (some (.im (rD Q))) (some (.im (dueD M o))) (some (.im (.int (e.1 : Nat)))) a16 a17) = .ok o.isNone := isND_ok rfl
  cases o with
  | some y =>
    refine ⟨a16, ?_⟩
    cases ht : M.hit e.1 with
    | false =>
      rw [ht] at hh
      exact (if_f (tAnd_f hh)).trans rfl
    | true =>
      rw [ht] at hh
      exact (if_f (tAnd_t hh hi)).trans rfl
  | none =>
    cases ht : M.hit e.1 with
    | false =>
      rw [ht] at hh
      refine ⟨a16, (if_f (tAnd_f hh)).trans ?_⟩
      unfold Mc.pE
      rw [ht]
      rfl
    | true =>
      rw [ht] at hh
      refine ⟨some (.ol ((M.bws e.1).map fun w => .str (tx w))), (if_t (tAnd_t hh hi)).trans ((sq_nx (back_list h hq)).trans ?_)⟩
      have el : ∀ {δ : DEnv}, fV 16 δ = .ok (.bl ((M.bws e.1).map fun w => .str (tx w))) → tB (fOp gGt (fCall gLen (aCons (fV 16) aNil)) (fC (.int 0))) δ = .ok (decide (0 < (M.bws e.1).length)) := fun h16 => by
        refine tB_ok (op_ok (x := .im (.int (((M.bws e.1).map fun w => PyData.str (tx w)).length : Nat))) (call_ok (cons_ok h16 rfl) rfl) rfl ?_)
        show Tr.ok (R.im (.bool (decide ((0 : Int) < _)))) = _
        rw [List.length_map]
        congr 3
        exact decide_eq_decide.mpr Int.ofNat_lt
      have ep : M.pE e = (M.back e.1).isSome := by unfold Mc.pE; rw [ht]; rfl
      have eb : M.back e.1 = (M.bws e.1)[0]? := rfl
      refine set_ok (r := .im (dueD M (if M.pE e then some e else none))) ?_ rfl
      rw [ep]
      cases hb : M.bws e.1 with
      | nil =>
        rw [hb] at eb
        rw [show M.back e.1 = none from eb]
        refine fIf_f ((el ?_).trans (by rw [hb]; rfl)) rfl
        rw [hb]; rfl
      | cons w r =>
        rw [hb] at eb
        have eb' : M.back e.1 = some w := eb
        rw [eb']
        refine fIf_t ((el ?_).trans (by rw [hb]; rfl)) ?_
        · rw [hb]; rfl
        · show _ = Tr.ok (R.im (encL e.2 ((M.back e.1).getD [])))
          rw [eb']
          exact tup2 (fcons_ok (dgzF_ok hn he rfl rfl) rfl (fcons_ok (op_ok rfl rfl (ix_bl (i := 0) (d := .str (tx w)) rfl)) rfl rfl))
theorem take_find {p : En → Bool} (he : Q[i]? = some e) : (Q.take (i + 1)).find? p = match (Q.take i).find? p with
    | some y => some y
    | none => if p e then some e else none := by
  rw [List.take_succ, he]
  show ((Q.take i) ++ [e]).find? p = _
  rw [find_snoc]
  cases (Q.take i).find? p <;> rfl
theorem l8_ok (h : M.Ok) (ke : KEnd M 0 0 k) : ∃ y15 y16, l8 (lw M a4 a5 a6 a7 a8 a9 a10 a11 a12 (some (.oK ((Qk M 0 0 k).map kv))) (some (.im .none)) a15 a16 a17) =
    .ok (.nx (lw M a4 a5 a6 a7 a8 a9 a10 a11 a12 (some (.im (rD (Qk M 0 0 k)))) (some (.im (dueD M ((Qk M 0 0 k).find? M.pE)))) y15 y16 a17)) := by
  have v := ke.iv
  have nd := nd0 v
  generalize Qk M 0 0 k = Q at v nd
  obtain ⟨δ', e1, y15, y16, e2⟩ := forF_ix0 (g := gN 15) (b := b8) (δ := lw M a4 a5 a6 a7 a8 a9 a10 a11 a12 (some (.im (rD Q))) (some (.im .none)) a15 a16 a17)
    (fun i δ => ∃ y15 y16, δ = lw M a4 a5 a6 a7 a8 a9 a10 a11 a12 (some (.im (rD Q))) (some (.im (dueD M ((Q.take i).find? M.pE)))) y15 y16 a17) (Q.map st1) ⟨a15, a16, rfl⟩ (by
      rintro i d δ hd ⟨y15, y16, rfl⟩
      rw [List.getElem?_map] at hd
      cases he : Q[i]? with
      | none => rw [he] at hd; cases hd
      | some e =>
        rw [he] at hd
        obtain rfl := Option.some.inj hd
        have hin := List.mem_of_getElem? he
        obtain ⟨r1, r2⟩ := v.run e hin
        have hq : e.1 < M.tab.length := by rw [r1]; exact Mc.run_lt h _ _ h.n0 r2
        obtain ⟨z16, e3⟩ := b8_ok (a4 := a4) (a5 := a5) (a6 := a6) (a7 := a7) (a8 := a8) (a9 := a9) (a10 := a10) (a11 := a11) (a12 := a12) (a16 := y16) (a17 := a17) h nd hin hq (o := (Q.take i).find? M.pE)
        refine ⟨_, _, rfl, e3, some (.im (.int (e.1 : Nat))), z16, ?_⟩
        rw [take_find he])
  subst e2
  rw [List.length_map, List.take_length] at e1
  refine ⟨y15, y16, ?_⟩
  rw [l8_eq]
  exact for_ok (keys_ok rfl) e1
theorem eq_none : gEq (.im .none) (.im .none) = .ok (.im (.bool true)) := rfl
def toldD (M : Mc) : Option En → D
  | none => .none
  | some e => encP (M.lss e)
theorem l10_ok (h : M.Ok) (ke : KEnd M 0 0 k) : l10 (lw M a4 a5 a6 a7 a8 a9 a10 a11 a12 a13 (some (.im (dueD M ((Qk M 0 0 k).find? M.pE)))) a15 a16 (some (.im (toldD M ((Qk M 0 0 k).find? M.pE))))) = .ok (.rt (.im (.bool true))) := by
  have v := ke.iv
  have hl := ke.len
  have hle := ke.le
  have n1 := h.n1
  cases hf : (Qk M 0 0 k).find? M.pE with
  | none => rfl
  | some e =>
    have hin := List.mem_of_find?_eq_some hf
    have hp := List.find?_some hf
    unfold Mc.pE at hp
    rw [Bool.and_eq_true] at hp
    obtain ⟨w, hw⟩ := Option.isSome_iff_exists.mp hp.2
    obtain ⟨b1, b2, b3, b4⟩ := back_in hw
    obtain ⟨r1, r2⟩ := v.run e hin
    have hq : e.1 < M.tab.length := by rw [r1]; exact Mc.run_lt h _ _ h.n0 r2
    obtain ⟨i, hi, ei⟩ := List.mem_iff_getElem.mp hin
    have l1 := v.len i e (by rw [List.getElem?_eq_getElem hi, ei])
    -- the loop is no longer than there are states
    obtain ⟨k2, ke2⟩ := kEnd (M := M) (z := 1) h (by omega) hq
    have wl : w.length ≤ M.tab.length := by
      have h1 := back_ok h hq ke2
      rw [hw] at h1
      obtain ⟨f, f1, f2⟩ := Option.map_eq_some_iff.mp h1
      have f3 := List.mem_of_find?_eq_some f1
      obtain ⟨j, hj, ej⟩ := List.mem_iff_getElem.mp f3
      rw [List.getElem_drop] at ej
      rw [List.length_drop, ke2.len] at hj
      have := ke2.iv.len (1 + j) f (by rw [List.getElem?_eq_getElem (by rw [ke2.len]; omega), ej])
      have := ke2.le
      rw [← f2]
      omega
    have el : M.lss e = leastF e.2 w := by unfold Mc.lss; rw [hw]; rfl
    have ed : dueD M (some e) = encL e.2 w := by show encL e.2 ((M.back e.1).getD []) = _; rw [hw]; rfl
    have et : toldD M (some e) = encL (leastF e.2 w).1 (leastF e.2 w).2 := by show encP (M.lss e) = _; rw [el]; rfl
    rw [ed, et]
    obtain ⟨g1, g2, g3, g4, g5⟩ := least_in (a := e.2) b1
    have s1 : Sm (leastF e.2 w).1 := fun c hc => sm_K h r2 c (g4 c hc)
    have s2 : Sm (leastF e.2 w).2 := fun c hc => sm_K h b3 c (g5 c hc)
    have eq1 := eq_L s1 s2 s1 s2
    rw [decide_eq_true rfl, decide_eq_true rfl] at eq1
    have eg := law_goes_ok h (a := (leastF e.2 w).1) (b := (leastF e.2 w).2) (fun c hc => r2 c (g4 c hc)) (fun c hc => b3 c (g5 c hc)) (by omega) (by omega)
    rw [goes_true (M := M) (n := M.tab.length) (w := e.2) (u := w) (q := e.1) h.n0 (by omega) b1 wl r1.symm b4 hp.1 (List.length_pos_iff.mp g1) g3 (fun N => pre_least b1)] at eg
    refine ret_ok ?_
    have e1 : fIf (tB (fOp (gIsN false) (fV 14) (fC .none))) (fC .none) (fCallF 1 F_least_lasso (aCons (fV 14) aNil)) (lw M a4 a5 a6 a7 a8 a9 a10 a11 a12 a13 (some (.im (encL e.2 w))) a15 a16 (some (.im (encL (leastF e.2 w).1 (leastF e.2 w).2)))) = .ok (.im (encL (leastF e.2 w).1 (leastF e.2 w).2)) :=
      fIf_f rfl (callF_ok (cons_ok rfl rfl) rfl (least_ok b1 (by omega) (by omega) (sm_K h r2) (sm_K h b3)))
    unfold fAnd fOr
    rw [op_ok rfl e1 eq1, bind_ok]
    show ((fOp (gIsN false) (fV 17) (fC .none) (lw M a4 a5 a6 a7 a8 a9 a10 a11 a12 a13 (some (.im (encL e.2 w))) a15 a16 (some (.im (encL (leastF e.2 w).1 (leastF e.2 w).2))))).bind _) = _
    rw [op_ok (z := .im (.bool false)) rfl rfl rfl, bind_ok]
    exact callC_ok (cons_ok rfl (cons_ok rfl rfl)) rfl eg
theorem l2_k (d : D) : l2 [none, some .drw, some (.im d), none, none, none, none, none, none, none, none, none, none, none, none, none, none, none, none, none, none] = .ok (.nx [none, some .drw, some (.im d), none, none, none, none, none, none, none, none, none, none, none, none, none, none, none, none, none, none]) := by kernel_rfl
theorem tail_ok (h : M.Ok) (hδ : δ = lv M a4 a5 a6 a7 a8 a9 a10 a11 a12) : (sSq l6 (sSq l7 (sSq l8 (sSq l9 l10)))) δ = .ok (.rt (.im (.bool true))) := by
  subst hδ
  obtain ⟨k, ke⟩ := kEnd (M := M) (z := 0) h (by omega) h.n0
  obtain ⟨y15, y16, e8⟩ := l8_ok (a4 := a4) (a5 := a5) (a6 := a6) (a7 := a7) (a8 := a8) (a9 := a9) (a10 := a10) (a11 := a11) (a12 := a12) (a15 := none) (a16 := none) (a17 := none) h ke
  have eg : F_least_going_on [.im M.enc] = .ok (.im (toldD M ((Qk M 0 0 k).find? M.pE))) := by
    rw [going_ok h ke]
    cases (Qk M 0 0 k).find? M.pE <;> rfl
  exact (sq_nx (set_ok (callC_ok (cons_ok rfl rfl) rfl (law_reach_ok h ke)) rfl)).trans ((sq_nx (δ' := lw M a4 a5 a6 a7 a8 a9 a10 a11 a12 (some (.oK ((Qk M 0 0 k).map kv))) (some (.im .none)) none none none) rfl).trans ((sq_nx e8).trans ((sq_nx (set_ok (callF_ok (cons_ok rfl rfl) rfl eg) rfl)).trans (l10_ok h ke))))
theorem main5 (h : M.Ok) : SatB ((sSq l5 (sSq l6 (sSq l7 (sSq l8 (sSq l9 l10))))) (lv M (some (.ol (W3 M))) none none none none none none none none)) (fun o => o = .rt (.im (.bool true))) PX :=
  sb_sq (sb_of (l5_ok h) fun o ho => by
    obtain ⟨δ2, e1, a4, y5, y6, y7, y8, y9, y10, y11, y12, e2⟩ := ho
    exact ⟨δ2, e1, sb_ok (tail_ok h e2) rfl⟩)
theorem main2 (h : M.Ok) : SatB ((sSq l2 (sSq l3 (sSq l4 (sSq l5 (sSq l6 (sSq l7 (sSq l8 (sSq l9 l10)))))))) [none, some .drw, some (.im M.enc), none, none, none, none, none, none, none, none, none, none, none, none, none, none, none, none, none, none]) (fun o => o = .rt (.im (.bool true))) PX :=
  sb_sqo (l2_k M.enc) (sb_sqo (δ' := [none, some .drw, some (.im M.enc), some (.im (.str M.al)), none, none, none, none, none, none, none, none, none, none, none, none, none, none, none, none, none]) rfl (sb_sqo (set_ok (callC_ok (cons_ok rfl (cons_ok rfl rfl)) rfl (all3_ok h.k)) rfl) (main5 h)))
theorem main1 (hδ : δ = [none, some .drw, none, none, none, none, none, none, none, none, none, none, none, none, none, none, none, none, none, none, none]) : SatB (B_law δ) (fun o => o = .rt (.im (.bool true))) fun _ => False := by
  rw [l_eq]
  refine sb_sq (sb_set (sb_callC (rs := [R.drw, .im (.int 4)]) (by rw [hδ]; rfl) rfl (sb_of ⟨law_machine_ok⟩ fun r hr => ?_)))
  obtain ⟨M, hM, er⟩ := hr
  refine ⟨.im M.enc, by rw [er]; rfl, _, rfl, ?_⟩
  rw [hδ]
  exact main2 hM
theorem tF {δ : DEnv} (e : (none :: some .drw :: List.replicate (21 - 2) none : DEnv) = δ) (main : SatB (B_law δ) (fun o => o = .rt (.im (.bool true))) fun _ => False) : SatB (lawF 21 B_law) (fun r => r = .im (.bool true)) fun _ => False := by
  unfold lawF
  rw [e]
  refine ⟨Tr.sat_bind.mpr (Tr.sat_of main.h fun o ho => ?_)⟩
  rw [ho]
  exact rfl
theorem law_trueB : SatB (lawF 21 B_law) (fun r => r = .im (.bool true)) fun _ => False := tF rfl (main1 rfl)
theorem law_true : (lawF 21 B_law).sat (fun r => r = .im (.bool true)) fun _ => False := law_trueB.h
end
end K40
set_option Elab.async false
set_option linter.all false
set_option maxRecDepth 100000
set_option maxHeartbeats 4000000
namespace K40
open PySem PySem.Spec L2 DW FW
structure TT0 (P : Program) (K : PySem.W.Frag) (mg : Str → Option Value) : Prop where
  abs : mg "abs" = none
  any : mg "any" = none
  enumerate : mg "enumerate" = none
  int : mg "int" = none
  len : mg "len" = none
  list : mg "list" = none
  m_InputError_InputError : PySem.W.exmOne K (.ref (He.ga K "InputError")) (.ref (He.ga K "InputError")) = some true
  range : mg "range" = none
  t_InputError : DX.IeTxt P K mg "InputError" "InputError.__init__" (He.ga K "InputError") (He.ma K (He.ga K "InputError") "__init__")
  tuple : mg "tuple" = none
theorem sc_state_from : FnScope n_state_from ["machine", "state", "word"] (defScope s_state_from) := ⟨rfl, rfl, rfl, by decide +kernel, rfl, by decide +kernel, by decide +kernel⟩
structure C_state_from (P : Program) (w : World) (K : PySem.W.Frag) (mg : Str → Option Value) (base : Heap) : Prop where
  none : True
set_option maxHeartbeats 3200000 in
theorem WC_state_from {P : Program} {w : World} {K : PySem.W.Frag} {mg : Str → Option Value} {base : Heap} (T : TT0 P K mg) (c : C_state_from P w K mg base) (f : Addr) (cdv : Value) (A : Around) (outer : List Env) (s : Shared) (H : Hp) (E : XK) (G : Gd) (hr : Room 0 (A.deeper (PyProof.Rows.envOfC "state_from" (defScope s_state_from) s.heap.objs.size f cdv))) :
    Ss_ (cxOf CX0 P w K mg base n_state_from "state_from" (defScope s_state_from) f cdv A outer s H E).nox G wTrue ((defBody s_state_from)) B_state_from := by
  have hu1 := (room_units hr).1; have hu64 := (room_units hr).2.1; have hu65 := (room_units hr).2.2
  exact (s_cons (s_asg (ps_asg (e_var (pv 0)) (g_tup (n := 3) rfl (gs_cons (g_name (pg_name (i := 3) sc_state_from.nd rfl (.inl rfl))) (gs_cons (g_name (pg_name (i := 4) sc_state_from.nd rfl (.inl rfl))) (gs_cons (g_name (pg_name (i := 5) sc_state_from.nd rfl (.inl rfl))) gs_nil))))))
 (s_cons (s_for (ps_for PassesOwn.never rfl (i_str (e_var (pv 2))) (g_name (pg_name (i := 6) sc_state_from.nd rfl (.inl rfl))) (s_one (s_set (i := 1) (ps_set sc_state_from.nd rfl (.inl rfl) (e_ix (e_ix (e_var (pv 4)) (e_var (pv 1))) (e_mtK (pe_bm PySem.F.plainAttrs_str PySem.F.slot_str_index PySem.F.type_str_index mt_sindex (e_var (pv 3)) (a_cons (e_var (pv 6)) a_nil)) mtD_sindex isSB_ok kmg_sindex)))))))
 (s_one (s_ret (ps_ret (e_var (pv 1)))))))
theorem sc_least_words : FnScope n_least_words ["machine"] (defScope s_least_words) := ⟨rfl, rfl, rfl, by decide +kernel, rfl, by decide +kernel, by decide +kernel⟩
structure C_least_words (P : Program) (w : World) (K : PySem.W.Frag) (mg : Str → Option Value) (base : Heap) : Prop where
  none : True
set_option maxHeartbeats 3200000 in
theorem WC_least_words {P : Program} {w : World} {K : PySem.W.Frag} {mg : Str → Option Value} {base : Heap} (T : TT0 P K mg) (c : C_least_words P w K mg base) (f : Addr) (cdv : Value) (A : Around) (outer : List Env) (s : Shared) (H : Hp) (E : XK) (G : Gd) (hr : Room 0 (A.deeper (PyProof.Rows.envOfC "least_words" (defScope s_least_words) s.heap.objs.size f cdv))) :
    Ss_ (cxOf CX0 P w K mg base n_least_words "least_words" (defScope s_least_words) f cdv A outer s H E).nox G wTrue ((defBody s_least_words)) B_least_words := by
  have hu1 := (room_units hr).1; have hu64 := (room_units hr).2.1; have hu65 := (room_units hr).2.2
  exact (s_cons (s_asg (ps_asg (e_var (pv 0)) (g_tup (n := 3) rfl (gs_cons (g_name (pg_name (i := 1) sc_least_words.nd rfl (.inl rfl))) (gs_cons (g_name (pg_name (i := 2) sc_least_words.nd rfl (.inl rfl))) (gs_cons (g_name (pg_name (i := 3) sc_least_words.nd rfl (.inl rfl))) gs_nil))))))
 (s_cons (s_set (i := 4) (ps_set sc_least_words.nd rfl (.inl rfl) (e_dispK hu1 (e_con de_int) (e_con de_str))))
 (s_cons (s_set (i := 5) (ps_set sc_least_words.nd rfl (.inl rfl) (e_lst (a_cons (e_con de_int) a_nil))))
 (s_cons (s_while (ps_while PassesOwn.never (t_tru (e_var (pv 5))) (s_cons (s_pop0 (j := 5) (ps_asg (pe_bm PySem.F.plainAttrs_list PySem.F.slot_list_pop PySem.F.type_list_pop mt_popAt (pv 5) (pa_cons pe_int pa_nil)) (g_name (pg_name (i := 6) sc_least_words.nd rfl (.inl rfl)))))
 (s_one (s_for (ps_for PassesOwn.never rfl (i_enumG (by rfl) T.enumerate (a_cons (e_var (pv 1)) a_nil)) (g_tup (n := 2) rfl (gs_cons (g_name (pg_name (i := 7) sc_least_words.nd rfl (.inl rfl))) (gs_cons (g_name (pg_name (i := 8) sc_least_words.nd rfl (.inl rfl))) gs_nil))) (s_cons (s_set (i := 9) (ps_set sc_least_words.nd rfl (.inl rfl) (e_ix (e_ix (e_var (pv 2)) (e_var (pv 6))) (e_var (pv 7)))))
 (s_one (s_if (t_dnotinz hu1 (e_var (pv 9)) (e_var (pv 4))) (s_cons (s_put (i := 4) (ps_dput hu1 (pv 4) (e_var (pv 9)) (e_add (e_dgz hu1 (e_var (pv 4)) (e_var (pv 6))) (e_var (pv 8))) rfl))
 (s_one (s_append (i := 5) (ps_expr (pe_bm PySem.F.plainAttrs_list PySem.F.slot_list_append PySem.F.type_list_append mt_append (pv 5) (pa_cons (e_var (pv 9)) pa_nil)))))) s_nil)))))))))
 (s_one (s_retV (ps_ret (pv 4))))))))
theorem sc_words_back : FnScope n_words_back ["machine", "start"] (defScope s_words_back) := ⟨rfl, rfl, rfl, by decide +kernel, rfl, by decide +kernel, by decide +kernel⟩
structure C_words_back (P : Program) (w : World) (K : PySem.W.Frag) (mg : Str → Option Value) (base : Heap) : Prop where
  none : True
set_option maxHeartbeats 3200000 in
theorem WC_words_back {P : Program} {w : World} {K : PySem.W.Frag} {mg : Str → Option Value} {base : Heap} (T : TT0 P K mg) (c : C_words_back P w K mg base) (f : Addr) (cdv : Value) (A : Around) (outer : List Env) (s : Shared) (H : Hp) (E : XK) (G : Gd) (hr : Room 0 (A.deeper (PyProof.Rows.envOfC "words_back" (defScope s_words_back) s.heap.objs.size f cdv))) :
    Ss_ (cxOf CX0 P w K mg base n_words_back "words_back" (defScope s_words_back) f cdv A outer s H E).nox G wTrue ((defBody s_words_back)) B_words_back := by
  have hu1 := (room_units hr).1; have hu64 := (room_units hr).2.1; have hu65 := (room_units hr).2.2
  exact (s_cons (s_asg (ps_asg (e_var (pv 0)) (g_tup (n := 3) rfl (gs_cons (g_name (pg_name (i := 2) sc_words_back.nd rfl (.inl rfl))) (gs_cons (g_name (pg_name (i := 3) sc_words_back.nd rfl (.inl rfl))) (gs_cons (g_name (pg_name (i := 4) sc_words_back.nd rfl (.inl rfl))) gs_nil))))))
 (s_cons (s_set (i := 5) (ps_set sc_words_back.nd rfl (.inl rfl) e_newK))
 (s_cons (s_set (i := 6) (ps_set sc_words_back.nd rfl (.inl rfl) (e_lst (a_cons (e_tup (a_cons (e_var (pv 1)) (a_cons (e_con de_str) a_nil))) a_nil))))
 (s_cons (s_while (ps_while PassesOwn.never (t_tru (e_var (pv 6))) (s_cons (s_pop0 (j := 6) (ps_asg (pe_bm PySem.F.plainAttrs_list PySem.F.slot_list_pop PySem.F.type_list_pop mt_popAt (pv 6) (pa_cons pe_int pa_nil)) (g_tup (n := 2) rfl (gs_cons (g_name (pg_name (i := 7) sc_words_back.nd rfl (.inl rfl))) (gs_cons (g_name (pg_name (i := 8) sc_words_back.nd rfl (.inl rfl))) gs_nil)))))
 (s_one (s_for (ps_for PassesOwn.never rfl (i_enumG (by rfl) T.enumerate (a_cons (e_var (pv 2)) a_nil)) (g_tup (n := 2) rfl (gs_cons (g_name (pg_name (i := 9) sc_words_back.nd rfl (.inl rfl))) (gs_cons (g_name (pg_name (i := 10) sc_words_back.nd rfl (.inl rfl))) gs_nil))) (s_cons (s_set (i := 11) (ps_set sc_words_back.nd rfl (.inl rfl) (e_ix (e_ix (e_var (pv 3)) (e_var (pv 7))) (e_var (pv 9)))))
 (s_one (s_if (t_dnotinz hu1 (e_var (pv 11)) (e_var (pv 5))) (s_cons (s_put (i := 5) (ps_dput hu1 (pv 5) (e_var (pv 11)) (e_add (e_var (pv 8)) (e_var (pv 10))) rfl))
 (s_one (s_append (i := 6) (ps_expr (pe_bm PySem.F.plainAttrs_list PySem.F.slot_list_append PySem.F.type_list_append mt_append (pv 6) (pa_cons (e_tup (a_cons (e_var (pv 11)) (a_cons (e_add (e_var (pv 8)) (e_var (pv 10))) a_nil))) pa_nil)))))) s_nil)))))))))
 (s_one (s_retV (ps_ret (pv 5))))))))
theorem sc_passes_end : FnScope n_passes_end ["machine", "state", "word"] (defScope s_passes_end) := ⟨rfl, rfl, rfl, by decide +kernel, rfl, by decide +kernel, by decide +kernel⟩
structure C_passes_end (P : Program) (w : World) (K : PySem.W.Frag) (mg : Str → Option Value) (base : Heap) : Prop where
  none : True
set_option maxHeartbeats 3200000 in
theorem WC_passes_end {P : Program} {w : World} {K : PySem.W.Frag} {mg : Str → Option Value} {base : Heap} (T : TT0 P K mg) (c : C_passes_end P w K mg base) (f : Addr) (cdv : Value) (A : Around) (outer : List Env) (s : Shared) (H : Hp) (E : XK) (G : Gd) (hr : Room 0 (A.deeper (PyProof.Rows.envOfC "passes_end" (defScope s_passes_end) s.heap.objs.size f cdv))) :
    Ss_ (cxOf CX0 P w K mg base n_passes_end "passes_end" (defScope s_passes_end) f cdv A outer s H E).nox G wTrue ((defBody s_passes_end)) B_passes_end := by
  have hu1 := (room_units hr).1; have hu64 := (room_units hr).2.1; have hu65 := (room_units hr).2.2
  exact (s_cons (s_set (i := 3) (ps_set sc_passes_end.nd rfl (.inl rfl) (e_con de_bl)))
 (s_cons (s_for (ps_for PassesOwn.never rfl (i_str (e_var (pv 2))) (g_name (pg_name (i := 4) sc_passes_end.nd rfl (.inl rfl))) (s_cons (s_set (i := 1) (ps_set sc_passes_end.nd rfl (.inl rfl) (e_ix (e_ix (e_ix (e_var (pv 0)) (e_con de_int)) (e_var (pv 1))) (e_mtK (pe_bm PySem.F.plainAttrs_str PySem.F.slot_str_index PySem.F.type_str_index mt_sindex (e_ix (e_var (pv 0)) (e_con de_int)) (a_cons (e_var (pv 4)) a_nil)) mtD_sindex isSB_ok kmg_sindex))))
 (s_one (s_set (i := 3) (ps_set sc_passes_end.nd rfl (.inl rfl) (e_or (e_var (pv 3)) (e_one (e_inT (e_var (pv 1)) (e_ix (e_var (pv 0)) (e_con de_int)))))))))))
 (s_one (s_ret (ps_ret (e_tup (a_cons (e_var (pv 1)) (a_cons (e_var (pv 3)) a_nil))))))))
theorem sc__law_longer : FnScope n__law_longer ["alphabet", "level"] (defScope s__law_longer) := ⟨rfl, rfl, rfl, by decide +kernel, rfl, by decide +kernel, by decide +kernel⟩
structure C__law_longer (P : Program) (w : World) (K : PySem.W.Frag) (mg : Str → Option Value) (base : Heap) : Prop where
  none : True
set_option maxHeartbeats 3200000 in
theorem WC__law_longer {P : Program} {w : World} {K : PySem.W.Frag} {mg : Str → Option Value} {base : Heap} (T : TT0 P K mg) (c : C__law_longer P w K mg base) (f : Addr) (cdv : Value) (A : Around) (outer : List Env) (s : Shared) (H : Hp) (E : XK) (G : Gd) (hr : Room 0 (A.deeper (PyProof.Rows.envOfC "_law_longer" (defScope s__law_longer) s.heap.objs.size f cdv))) :
    Ss_ (cxOf CX0 P w K mg base n__law_longer "_law_longer" (defScope s__law_longer) f cdv A outer s H E).nox G wTrue ((defBody s__law_longer)) B__law_longer := by
  have hu1 := (room_units hr).1; have hu64 := (room_units hr).2.1; have hu65 := (room_units hr).2.2
  exact (s_cons (s_set (i := 2) (ps_set sc__law_longer.nd rfl (.inl rfl) (e_lst a_nil)))
 (s_cons (s_for (ps_for PassesOwn.never rfl (i_list (e_var (pv 1))) (g_name (pg_name (i := 3) sc__law_longer.nd rfl (.inr rfl))) (s_one (s_extend (i := 2) (ps_expr (pe_bm PySem.F.plainAttrs_list PySem.F.slot_list_extend PySem.F.type_list_extend mt_extend (pv 2) (pa_cons (e_lc rfl sc__law_longer.nd (i_str (e_var (pv 0))) (blkOk_by (own := [("sign", 4)]) (by kernel_rfl)) (fun _ _ _ _ _ => (g_name (pg_name (i := 4) sc__law_longer.nd rfl (.inl rfl)))) (fun _ _ _ _ _ => (e_add (e_var (pv 3)) (e_var (pv 4))))) pa_nil)))))))
 (s_one (s_retV (ps_ret (pv 2))))))
theorem sc__law_state : FnScope n__law_state ["machine", "state", "word"] (defScope s__law_state) := ⟨rfl, rfl, rfl, by decide +kernel, rfl, by decide +kernel, by decide +kernel⟩
structure C__law_state (P : Program) (w : World) (K : PySem.W.Frag) (mg : Str → Option Value) (base : Heap) : Prop where
  none : True
set_option maxHeartbeats 3200000 in
theorem WC__law_state {P : Program} {w : World} {K : PySem.W.Frag} {mg : Str → Option Value} {base : Heap} (T : TT0 P K mg) (c : C__law_state P w K mg base) (f : Addr) (cdv : Value) (A : Around) (outer : List Env) (s : Shared) (H : Hp) (E : XK) (G : Gd) (hr : Room 0 (A.deeper (PyProof.Rows.envOfC "_law_state" (defScope s__law_state) s.heap.objs.size f cdv))) :
    Ss_ (cxOf CX0 P w K mg base n__law_state "_law_state" (defScope s__law_state) f cdv A outer s H E).nox G wTrue ((defBody s__law_state)) B__law_state := by
  have hu1 := (room_units hr).1; have hu64 := (room_units hr).2.1; have hu65 := (room_units hr).2.2
  exact (s_cons (s_for (ps_for PassesOwn.never rfl (i_str (e_var (pv 2))) (g_name (pg_name (i := 3) sc__law_state.nd rfl (.inl rfl))) (s_one (s_set (i := 1) (ps_set sc__law_state.nd rfl (.inl rfl) (e_ix (e_ix (e_ix (e_var (pv 0)) (e_con de_int)) (e_var (pv 1))) (e_mtK (pe_bm PySem.F.plainAttrs_str PySem.F.slot_str_index PySem.F.type_str_index mt_sindex (e_ix (e_var (pv 0)) (e_con de_int)) (a_cons (e_var (pv 3)) a_nil)) mtD_sindex isSB_ok kmg_sindex)))))))
 (s_one (s_ret (ps_ret (e_var (pv 1))))))
theorem sc__law_reach : FnScope n__law_reach ["machine"] (defScope s__law_reach) := ⟨rfl, rfl, rfl, by decide +kernel, rfl, by decide +kernel, by decide +kernel⟩
structure C__law_reach (P : Program) (w : World) (K : PySem.W.Frag) (mg : Str → Option Value) (base : Heap) : Prop where
  none : True
set_option maxHeartbeats 3200000 in
theorem WC__law_reach {P : Program} {w : World} {K : PySem.W.Frag} {mg : Str → Option Value} {base : Heap} (T : TT0 P K mg) (c : C__law_reach P w K mg base) (f : Addr) (cdv : Value) (A : Around) (outer : List Env) (s : Shared) (H : Hp) (E : XK) (G : Gd) (hr : Room 0 (A.deeper (PyProof.Rows.envOfC "_law_reach" (defScope s__law_reach) s.heap.objs.size f cdv))) :
    Ss_ (cxOf CX0 P w K mg base n__law_reach "_law_reach" (defScope s__law_reach) f cdv A outer s H E).nox G wTrue ((defBody s__law_reach)) B__law_reach := by
  have hu1 := (room_units hr).1; have hu64 := (room_units hr).2.1; have hu65 := (room_units hr).2.2
  exact (s_cons (s_set (i := 1) (ps_set sc__law_reach.nd rfl (.inl rfl) (e_dispK hu1 (e_con de_int) (e_con de_str))))
 (s_cons (s_set (i := 2) (ps_set sc__law_reach.nd rfl (.inl rfl) (e_lst (a_cons (e_con de_int) a_nil))))
 (s_cons (s_set (i := 3) (ps_set sc__law_reach.nd rfl (.inl rfl) (e_con de_int)))
 (s_cons (s_while (ps_while PassesOwn.never (t_lt (e_var (pv 3)) (e_callB (pe_callB call_len (by rfl) T.len boot_len (a_cons (e_var (pv 2)) a_nil)) callD_len kcg_len)) (s_cons (s_for (ps_for PassesOwn.never rfl (i_range1 (st := true) (by rfl) T.range (a_cons (e_callB (pe_callB call_len (by rfl) T.len boot_len (a_cons (e_ix (e_var (pv 0)) (e_con de_int)) a_nil)) callD_len kcg_len) a_nil)) (g_name (pg_name (i := 4) sc__law_reach.nd rfl (.inl rfl))) (s_cons (s_set (i := 5) (ps_set sc__law_reach.nd rfl (.inl rfl) (e_ix (e_ix (e_ix (e_var (pv 0)) (e_con de_int)) (e_ix (e_var (pv 2)) (e_var (pv 3)))) (e_var (pv 4)))))
 (s_one (s_if (t_dnotinz hu1 (e_var (pv 5)) (e_var (pv 1))) (s_cons (s_put (i := 1) (ps_dput hu1 (pv 1) (e_var (pv 5)) (e_add (e_dgz hu1 (e_var (pv 1)) (e_ix (e_var (pv 2)) (e_var (pv 3)))) (e_ix (e_ix (e_var (pv 0)) (e_con de_int)) (e_var (pv 4)))) rfl))
 (s_one (s_append (i := 2) (ps_expr (pe_bm PySem.F.plainAttrs_list PySem.F.slot_list_append PySem.F.type_list_append mt_append (pv 2) (pa_cons (e_var (pv 5)) pa_nil)))))) s_nil)))))
 (s_one (s_set (i := 3) (ps_set sc__law_reach.nd rfl (.inl rfl) (e_add (e_var (pv 3)) (e_con de_int))))))))
 (s_one (s_retV (ps_ret (pv 1))))))))
theorem sc__law_far : FnScope n__law_far ["lasso"] (defScope s__law_far) := ⟨rfl, rfl, rfl, by decide +kernel, rfl, by decide +kernel, by decide +kernel⟩
structure C__law_far (P : Program) (w : World) (K : PySem.W.Frag) (mg : Str → Option Value) (base : Heap) : Prop where
  none : True
set_option maxHeartbeats 3200000 in
theorem WC__law_far {P : Program} {w : World} {K : PySem.W.Frag} {mg : Str → Option Value} {base : Heap} (T : TT0 P K mg) (c : C__law_far P w K mg base) (f : Addr) (cdv : Value) (A : Around) (outer : List Env) (s : Shared) (H : Hp) (E : XK) (G : Gd) (hr : Room 0 (A.deeper (PyProof.Rows.envOfC "_law_far" (defScope s__law_far) s.heap.objs.size f cdv))) :
    Ss_ (cxOf CX0 P w K mg base n__law_far "_law_far" (defScope s__law_far) f cdv A outer s H E).nox G wTrue ((defBody s__law_far)) B__law_far := by
  have hu1 := (room_units hr).1; have hu64 := (room_units hr).2.1; have hu65 := (room_units hr).2.2
  exact (s_one (s_ret (ps_ret (e_slice (e_add (e_ix (e_var (pv 0)) (e_con de_int)) (e_mulS (e_ix (e_var (pv 0)) (e_con de_int)) (e_con de_int))) o_none (o_some (e_con de_int))))))
theorem sc_root : FnScope n_root ["word"] (defScope s_root) := ⟨rfl, rfl, rfl, by decide +kernel, rfl, by decide +kernel, by decide +kernel⟩
structure C_root (P : Program) (w : World) (K : PySem.W.Frag) (mg : Str → Option Value) (base : Heap) : Prop where
  none : True
set_option maxHeartbeats 3200000 in
theorem WX_root {P : Program} {w : World} {K : PySem.W.Frag} {mg : Str → Option Value} {base : Heap} (T : TT0 P K mg) (c : C_root P w K mg base) (f : Addr) (cdv : Value) (A : Around) (outer : List Env) (s : Shared) (H : Hp) (E : XK) (G : Gd) (hr : Room 1 (A.deeper (PyProof.Rows.envOfC "root" (defScope s_root) s.heap.objs.size f cdv))) :
    Ss_ (cxOf (L2.CX P w) P w K mg base n_root "root" (defScope s_root) f cdv A outer s H E) G (fun cls d _ H => E cls d H) ((defBody s_root)) B_root := by
  have hu1 := (room_units hr).1; have hu64 := (room_units hr).2.1; have hu65 := (room_units hr).2.2
  have tk : Takes (cxOf (L2.CX P w) P w K mg base n_root "root" (defScope s_root) f cdv A outer s H E) (fun cls d _ H => E cls d H) := takes_of rfl rfl rfl rfl; have pown : PassesOwn (model P w) (cxOf (L2.CX P w) P w K mg base n_root "root" (defScope s_root) f cdv A outer s H E).A (cxOf (L2.CX P w) P w K mg base n_root "root" (defScope s_root) f cdv A outer s H E).env (cxOf (L2.CX P w) P w K mg base n_root "root" (defScope s_root) f cdv A outer s H E).xe := L2.passes_of rfl
  exact (s_cons (s_if (t_eq hu64 (e_var (pv 0)) (e_con de_str)) (s_one (s_raise1 rfl T.t_InputError hr tk (e_con de_str) (by rfl))) s_nil)
 (s_cons (s_for (ps_for pown rfl (i_range2 (st := true) (by rfl) T.range (a_cons (e_con de_int) (a_cons (e_add (e_callB (pe_callB call_len (by rfl) T.len boot_len (a_cons (e_var (pv 0)) a_nil)) callD_len kcg_len) (e_con de_int)) a_nil))) (g_name (pg_name (i := 1) sc_root.nd rfl (.inl rfl))) (s_cons (s_set (i := 2) (ps_set sc_root.nd rfl (.inl rfl) (e_fdiv (e_callB (pe_callB call_len (by rfl) T.len boot_len (a_cons (e_var (pv 0)) a_nil)) callD_len kcg_len) (e_var (pv 1)))))
 (s_one (s_if (t_eq hu64 (e_mulS (e_slice (e_var (pv 0)) o_none (o_some (e_var (pv 1)))) (e_var (pv 2))) (e_var (pv 0))) (s_one (s_ret (ps_ret (e_tup (a_cons (e_slice (e_var (pv 0)) o_none (o_some (e_var (pv 1)))) (a_cons (e_var (pv 2)) a_nil)))))) s_nil)))))
 (s_one (s_ret (ps_ret (e_tup (a_cons (e_var (pv 0)) (a_cons (e_con de_int) a_nil))))))))
theorem sc_need_loop : FnScope n_need_loop ["lasso"] (defScope s_need_loop) := ⟨rfl, rfl, rfl, by decide +kernel, rfl, by decide +kernel, by decide +kernel⟩
structure C_need_loop (P : Program) (w : World) (K : PySem.W.Frag) (mg : Str → Option Value) (base : Heap) : Prop where
  none : True
set_option maxHeartbeats 3200000 in
theorem WX_need_loop {P : Program} {w : World} {K : PySem.W.Frag} {mg : Str → Option Value} {base : Heap} (T : TT0 P K mg) (c : C_need_loop P w K mg base) (f : Addr) (cdv : Value) (A : Around) (outer : List Env) (s : Shared) (H : Hp) (E : XK) (G : Gd) (hr : Room 1 (A.deeper (PyProof.Rows.envOfC "need_loop" (defScope s_need_loop) s.heap.objs.size f cdv))) :
    Ss_ (cxOf (L2.CX P w) P w K mg base n_need_loop "need_loop" (defScope s_need_loop) f cdv A outer s H E) G (fun cls d _ H => E cls d H) ((defBody s_need_loop)) B_need_loop := by
  have hu1 := (room_units hr).1; have hu64 := (room_units hr).2.1; have hu65 := (room_units hr).2.2
  have tk : Takes (cxOf (L2.CX P w) P w K mg base n_need_loop "need_loop" (defScope s_need_loop) f cdv A outer s H E) (fun cls d _ H => E cls d H) := takes_of rfl rfl rfl rfl; have pown : PassesOwn (model P w) (cxOf (L2.CX P w) P w K mg base n_need_loop "need_loop" (defScope s_need_loop) f cdv A outer s H E).A (cxOf (L2.CX P w) P w K mg base n_need_loop "need_loop" (defScope s_need_loop) f cdv A outer s H E).env (cxOf (L2.CX P w) P w K mg base n_need_loop "need_loop" (defScope s_need_loop) f cdv A outer s H E).xe := L2.passes_of rfl
  exact (s_one (s_if (t_eq hu64 (e_ix (e_var (pv 0)) (e_con de_int)) (e_con de_str)) (s_one (s_raise1 rfl T.t_InputError hr tk (e_con de_str) (by rfl))) s_nil))
theorem sc__law_pick : FnScope n__law_pick ["d", "menu"] (defScope s__law_pick) := ⟨rfl, rfl, rfl, by decide +kernel, rfl, by decide +kernel, by decide +kernel⟩
structure C__law_pick (P : Program) (w : World) (K : PySem.W.Frag) (mg : Str → Option Value) (base : Heap) : Prop where
  _law_take : C8.Cal P w K mg base 1 "_law_take" (dSp K 2 (SC K F_take)) []
set_option maxHeartbeats 3200000 in
theorem WC__law_pick {P : Program} {w : World} {K : PySem.W.Frag} {mg : Str → Option Value} {base : Heap} (T : TT0 P K mg) (c : C__law_pick P w K mg base) (f : Addr) (cdv : Value) (A : Around) (outer : List Env) (s : Shared) (H : Hp) (E : XK) (G : Gd) (hr : Room 1 (A.deeper (PyProof.Rows.envOfC "_law_pick" (defScope s__law_pick) s.heap.objs.size f cdv))) :
    Ss_ (cxOf CX0 P w K mg base n__law_pick "_law_pick" (defScope s__law_pick) f cdv A outer s H E).nox G wTrue ((defBody s__law_pick)) B__law_pick := by
  have hu1 := (room_units hr).1; have hu64 := (room_units hr).2.1; have hu65 := (room_units hr).2.2
  exact (s_one (s_ret (ps_ret (e_ix (e_var (pv 1)) (e_c c._law_take hr (by decide) (by rfl) (a_cons (e_var (pv 0)) (a_cons (e_callB (pe_callB call_len (by rfl) T.len boot_len (a_cons (e_var (pv 1)) a_nil)) callD_len kcg_len) a_nil)))))))
theorem sc__law_all : FnScope n__law_all ["alphabet", "length"] (defScope s__law_all) := ⟨rfl, rfl, rfl, by decide +kernel, rfl, by decide +kernel, by decide +kernel⟩
structure C__law_all (P : Program) (w : World) (K : PySem.W.Frag) (mg : Str → Option Value) (base : Heap) : Prop where
  _law_longer : C8.Cal P w K mg base 1 "_law_longer" (dSp K 2 (SC K F__law_longer)) []
set_option maxHeartbeats 3200000 in
theorem WC__law_all {P : Program} {w : World} {K : PySem.W.Frag} {mg : Str → Option Value} {base : Heap} (T : TT0 P K mg) (c : C__law_all P w K mg base) (f : Addr) (cdv : Value) (A : Around) (outer : List Env) (s : Shared) (H : Hp) (E : XK) (G : Gd) (hr : Room 1 (A.deeper (PyProof.Rows.envOfC "_law_all" (defScope s__law_all) s.heap.objs.size f cdv))) :
    Ss_ (cxOf CX0 P w K mg base n__law_all "_law_all" (defScope s__law_all) f cdv A outer s H E).nox G wTrue ((defBody s__law_all)) B__law_all := by
  have hu1 := (room_units hr).1; have hu64 := (room_units hr).2.1; have hu65 := (room_units hr).2.2
  exact (s_cons (s_set (i := 2) (ps_set sc__law_all.nd rfl (.inl rfl) (e_lst (a_cons (e_con de_str) a_nil))))
 (s_cons (s_set (i := 3) (ps_set sc__law_all.nd rfl (.inl rfl) (e_lst (a_cons (e_con de_str) a_nil))))
 (s_cons (s_for (ps_for PassesOwn.never rfl (i_range1 (st := true) (by rfl) T.range (a_cons (e_var (pv 1)) a_nil)) (g_name (pg_name (i := 4) sc__law_all.nd rfl (.inl rfl))) (s_cons (s_frzD (i := 2) (s_set (i := 2) (ps_set sc__law_all.nd rfl (.inl rfl) (e_c c._law_longer hr (by decide) (by rfl) (a_cons (e_var (pv 0)) (a_cons (e_var (pv 2)) a_nil))))))
 (s_one (s_set (i := 3) (ps_set sc__law_all.nd rfl (.inl rfl) (e_add (e_var (pv 3)) (e_var (pv 2)))))))))
 (s_one (s_retV (ps_ret (pv 3)))))))
theorem sc__law_goes : FnScope n__law_goes ["machine", "lasso"] (defScope s__law_goes) := ⟨rfl, rfl, rfl, by decide +kernel, rfl, by decide +kernel, by decide +kernel⟩
structure C__law_goes (P : Program) (w : World) (K : PySem.W.Frag) (mg : Str → Option Value) (base : Heap) : Prop where
  _law_state : C8.Cal P w K mg base 1 "_law_state" (dSp K 3 (SC K F__law_state)) []
set_option maxHeartbeats 3200000 in
theorem WC__law_goes {P : Program} {w : World} {K : PySem.W.Frag} {mg : Str → Option Value} {base : Heap} (T : TT0 P K mg) (c : C__law_goes P w K mg base) (f : Addr) (cdv : Value) (A : Around) (outer : List Env) (s : Shared) (H : Hp) (E : XK) (G : Gd) (hr : Room 1 (A.deeper (PyProof.Rows.envOfC "_law_goes" (defScope s__law_goes) s.heap.objs.size f cdv))) :
    Ss_ (cxOf CX0 P w K mg base n__law_goes "_law_goes" (defScope s__law_goes) f cdv A outer s H E).nox G wTrue ((defBody s__law_goes)) B__law_goes := by
  have hu1 := (room_units hr).1; have hu64 := (room_units hr).2.1; have hu65 := (room_units hr).2.2
  exact (s_cons (s_set (i := 2) (ps_set sc__law_goes.nd rfl (.inl rfl) (e_c c._law_state hr (by decide) (by rfl) (a_cons (e_var (pv 0)) (a_cons (e_con de_int) (a_cons (e_add (e_ix (e_var (pv 1)) (e_con de_int)) (e_mulS (e_ix (e_var (pv 1)) (e_con de_int)) (e_callB (pe_callB call_len (by rfl) T.len boot_len (a_cons (e_ix (e_var (pv 0)) (e_con de_int)) a_nil)) callD_len kcg_len))) a_nil))))))
 (s_cons (s_set (i := 3) (ps_set sc__law_goes.nd rfl (.inl rfl) (e_lst a_nil)))
 (s_cons (s_for (ps_for PassesOwn.never rfl (i_str (e_mulS (e_mulS (e_ix (e_var (pv 1)) (e_con de_int)) (e_callB (pe_callB call_len (by rfl) T.len boot_len (a_cons (e_ix (e_var (pv 0)) (e_con de_int)) a_nil)) callD_len kcg_len)) (e_con de_int))) (g_name (pg_name (i := 4) sc__law_goes.nd rfl (.inl rfl))) (s_cons (s_set (i := 2) (ps_set sc__law_goes.nd rfl (.inl rfl) (e_ix (e_ix (e_ix (e_var (pv 0)) (e_con de_int)) (e_var (pv 2))) (e_mtK (pe_bm PySem.F.plainAttrs_str PySem.F.slot_str_index PySem.F.type_str_index mt_sindex (e_ix (e_var (pv 0)) (e_con de_int)) (a_cons (e_var (pv 4)) a_nil)) mtD_sindex isSB_ok kmg_sindex))))
 (s_one (s_append (i := 3) (ps_expr (pe_bm PySem.F.plainAttrs_list PySem.F.slot_list_append PySem.F.type_list_append mt_append (pv 3) (pa_cons (e_inT (e_var (pv 2)) (e_ix (e_var (pv 0)) (e_con de_int))) pa_nil))))))))
 (s_one (s_ret (ps_ret (e_callB (pe_callB (cr_any rfl) (by rfl) T.any (by decide +kernel) (a_cons (e_var (pv 3)) a_nil)) callD_any kcg_any)))))))
theorem sc_least_lasso : FnScope n_least_lasso ["lasso"] (defScope s_least_lasso) := ⟨rfl, rfl, rfl, by decide +kernel, rfl, by decide +kernel, by decide +kernel⟩
structure C_least_lasso (P : Program) (w : World) (K : PySem.W.Frag) (mg : Str → Option Value) (base : Heap) : Prop where
  root : CalX P w K mg base 2 "root" (dSp K 1 (SF K F_root))
  need_loop : CalX P w K mg base 2 "need_loop" (dSp K 1 (SF K F_need_loop))
set_option maxHeartbeats 3200000 in
theorem WX_least_lasso {P : Program} {w : World} {K : PySem.W.Frag} {mg : Str → Option Value} {base : Heap} (T : TT0 P K mg) (c : C_least_lasso P w K mg base) (f : Addr) (cdv : Value) (A : Around) (outer : List Env) (s : Shared) (H : Hp) (E : XK) (G : Gd) (hr : Room 2 (A.deeper (PyProof.Rows.envOfC "least_lasso" (defScope s_least_lasso) s.heap.objs.size f cdv))) :
    Ss_ (cxOf (L2.CX P w) P w K mg base n_least_lasso "least_lasso" (defScope s_least_lasso) f cdv A outer s H E) G (fun cls d _ H => E cls d H) ((defBody s_least_lasso)) B_least_lasso := by
  have hu1 := (room_units hr).1; have hu64 := (room_units hr).2.1; have hu65 := (room_units hr).2.2
  have tk : Takes (cxOf (L2.CX P w) P w K mg base n_least_lasso "least_lasso" (defScope s_least_lasso) f cdv A outer s H E) (fun cls d _ H => E cls d H) := takes_of rfl rfl rfl rfl; have pown : PassesOwn (model P w) (cxOf (L2.CX P w) P w K mg base n_least_lasso "least_lasso" (defScope s_least_lasso) f cdv A outer s H E).A (cxOf (L2.CX P w) P w K mg base n_least_lasso "least_lasso" (defScope s_least_lasso) f cdv A outer s H E).env (cxOf (L2.CX P w) P w K mg base n_least_lasso "least_lasso" (defScope s_least_lasso) f cdv A outer s H E).xe := L2.passes_of rfl
  exact (s_cons (s_expr (ps_expr (e_cX c.need_loop tk hr (by decide) (by rfl) (a_cons (e_var (pv 0)) a_nil))))
 (s_cons (s_par (i := 1) (j := 2) rfl sc_least_lasso.nd rfl rfl (by decide) rfl rfl (a_cons (e_ix (e_var (pv 0)) (e_con de_int)) (a_cons (e_ix (e_cX c.root tk hr (by decide) (by rfl) (a_cons (e_ix (e_var (pv 0)) (e_con de_int)) a_nil)) (e_con de_int)) a_nil)))
 (s_cons (s_while (ps_while pown (t_w (w_and (t_ne hu64 (e_var (pv 1)) (e_con de_str)) (w_and1 (t_eq hu64 (e_ix (e_var (pv 1)) (e_con de_neg)) (e_ix (e_var (pv 2)) (e_con de_neg)))))) (s_one (s_par (i := 1) (j := 2) rfl sc_least_lasso.nd rfl rfl (by decide) rfl rfl (a_cons (e_slice (e_var (pv 1)) o_none (o_some (e_con de_neg))) (a_cons (e_add (e_ix (e_var (pv 2)) (e_con de_neg)) (e_slice (e_var (pv 2)) o_none (o_some (e_con de_neg)))) a_nil))))))
 (s_one (s_ret (ps_ret (e_tup (a_cons (e_var (pv 1)) (a_cons (e_var (pv 2)) a_nil)))))))))
theorem sc_sign_at : FnScope n_sign_at ["lasso", "place"] (defScope s_sign_at) := ⟨rfl, rfl, rfl, by decide +kernel, rfl, by decide +kernel, by decide +kernel⟩
structure C_sign_at (P : Program) (w : World) (K : PySem.W.Frag) (mg : Str → Option Value) (base : Heap) : Prop where
  need_loop : CalX P w K mg base 2 "need_loop" (dSp K 1 (SF K F_need_loop))
set_option maxHeartbeats 3200000 in
theorem WC_sign_at {P : Program} {w : World} {K : PySem.W.Frag} {mg : Str → Option Value} {base : Heap} (T : TT0 P K mg) (c : C_sign_at P w K mg base) (f : Addr) (cdv : Value) (A : Around) (outer : List Env) (s : Shared) (H : Hp) (E : XK) (G : Gd) (hr : Room 2 (A.deeper (PyProof.Rows.envOfC "sign_at" (defScope s_sign_at) s.heap.objs.size f cdv))) :
    Ss_ (cxOf CX0 P w K mg base n_sign_at "sign_at" (defScope s_sign_at) f cdv A outer s H E).nox G wFalse ((defBody s_sign_at)) B_sign_at := by
  have hu1 := (room_units hr).1; have hu64 := (room_units hr).2.1; have hu65 := (room_units hr).2.2
  have tk : Takes (cxOf CX0 P w K mg base n_sign_at "sign_at" (defScope s_sign_at) f cdv A outer s H E).nox wFalse := takes_nox
  exact (s_cons (s_expr (ps_expr (e_cX c.need_loop tk hr (by decide) (by rfl) (a_cons (e_var (pv 0)) a_nil))))
 (s_cons (s_asg (ps_asg (e_var (pv 0)) (g_tup (n := 2) rfl (gs_cons (g_name (pg_name (i := 2) sc_sign_at.nd rfl (.inl rfl))) (gs_cons (g_name (pg_name (i := 3) sc_sign_at.nd rfl (.inl rfl))) gs_nil)))))
 (s_one (s_ret (ps_ret (e_if (t_lt (e_var (pv 1)) (e_callB (pe_callB call_len (by rfl) T.len boot_len (a_cons (e_var (pv 2)) a_nil)) callD_len kcg_len)) (e_ix (e_var (pv 2)) (e_var (pv 1))) (e_ix (e_var (pv 3)) (e_mod (e_sub (e_var (pv 1)) (e_callB (pe_callB call_len (by rfl) T.len boot_len (a_cons (e_var (pv 2)) a_nil)) callD_len kcg_len)) (e_callB (pe_callB call_len (by rfl) T.len boot_len (a_cons (e_var (pv 3)) a_nil)) callD_len kcg_len)))))))))
set_option maxHeartbeats 3200000 in
theorem WX_sign_at {P : Program} {w : World} {K : PySem.W.Frag} {mg : Str → Option Value} {base : Heap} (T : TT0 P K mg) (c : C_sign_at P w K mg base) (f : Addr) (cdv : Value) (A : Around) (outer : List Env) (s : Shared) (H : Hp) (E : XK) (G : Gd) (hr : Room 2 (A.deeper (PyProof.Rows.envOfC "sign_at" (defScope s_sign_at) s.heap.objs.size f cdv))) :
    Ss_ (cxOf (L2.CX P w) P w K mg base n_sign_at "sign_at" (defScope s_sign_at) f cdv A outer s H E) G (fun cls d _ H => E cls d H) ((defBody s_sign_at)) B_sign_at := by
  have hu1 := (room_units hr).1; have hu64 := (room_units hr).2.1; have hu65 := (room_units hr).2.2
  have tk : Takes (cxOf (L2.CX P w) P w K mg base n_sign_at "sign_at" (defScope s_sign_at) f cdv A outer s H E) (fun cls d _ H => E cls d H) := takes_of rfl rfl rfl rfl; have pown : PassesOwn (model P w) (cxOf (L2.CX P w) P w K mg base n_sign_at "sign_at" (defScope s_sign_at) f cdv A outer s H E).A (cxOf (L2.CX P w) P w K mg base n_sign_at "sign_at" (defScope s_sign_at) f cdv A outer s H E).env (cxOf (L2.CX P w) P w K mg base n_sign_at "sign_at" (defScope s_sign_at) f cdv A outer s H E).xe := L2.passes_of rfl
  exact (s_cons (s_expr (ps_expr (e_cX c.need_loop tk hr (by decide) (by rfl) (a_cons (e_var (pv 0)) a_nil))))
 (s_cons (s_asg (ps_asg (e_var (pv 0)) (g_tup (n := 2) rfl (gs_cons (g_name (pg_name (i := 2) sc_sign_at.nd rfl (.inl rfl))) (gs_cons (g_name (pg_name (i := 3) sc_sign_at.nd rfl (.inl rfl))) gs_nil)))))
 (s_one (s_ret (ps_ret (e_if (t_lt (e_var (pv 1)) (e_callB (pe_callB call_len (by rfl) T.len boot_len (a_cons (e_var (pv 2)) a_nil)) callD_len kcg_len)) (e_ix (e_var (pv 2)) (e_var (pv 1))) (e_ix (e_var (pv 3)) (e_mod (e_sub (e_var (pv 1)) (e_callB (pe_callB call_len (by rfl) T.len boot_len (a_cons (e_var (pv 2)) a_nil)) callD_len kcg_len)) (e_callB (pe_callB call_len (by rfl) T.len boot_len (a_cons (e_var (pv 3)) a_nil)) callD_len kcg_len)))))))))
theorem sc_goes_on : FnScope n_goes_on ["machine", "lasso"] (defScope s_goes_on) := ⟨rfl, rfl, rfl, by decide +kernel, rfl, by decide +kernel, by decide +kernel⟩
structure C_goes_on (P : Program) (w : World) (K : PySem.W.Frag) (mg : Str → Option Value) (base : Heap) : Prop where
  state_from : C8.Cal P w K mg base 1 "state_from" (dSp K 3 (SC K F_state_from)) []
  need_loop : CalX P w K mg base 2 "need_loop" (dSp K 1 (SF K F_need_loop))
  passes_end : C8.Cal P w K mg base 1 "passes_end" (dSp K 3 (SC K F_passes_end)) []
set_option maxHeartbeats 3200000 in
theorem WX_goes_on {P : Program} {w : World} {K : PySem.W.Frag} {mg : Str → Option Value} {base : Heap} (T : TT0 P K mg) (c : C_goes_on P w K mg base) (f : Addr) (cdv : Value) (A : Around) (outer : List Env) (s : Shared) (H : Hp) (E : XK) (G : Gd) (hr : Room 2 (A.deeper (PyProof.Rows.envOfC "goes_on" (defScope s_goes_on) s.heap.objs.size f cdv))) :
    Ss_ (cxOf (L2.CX P w) P w K mg base n_goes_on "goes_on" (defScope s_goes_on) f cdv A outer s H E) G (fun cls d _ H => E cls d H) ((defBody s_goes_on)) B_goes_on := by
  have hu1 := (room_units hr).1; have hu64 := (room_units hr).2.1; have hu65 := (room_units hr).2.2
  have tk : Takes (cxOf (L2.CX P w) P w K mg base n_goes_on "goes_on" (defScope s_goes_on) f cdv A outer s H E) (fun cls d _ H => E cls d H) := takes_of rfl rfl rfl rfl; have pown : PassesOwn (model P w) (cxOf (L2.CX P w) P w K mg base n_goes_on "goes_on" (defScope s_goes_on) f cdv A outer s H E).A (cxOf (L2.CX P w) P w K mg base n_goes_on "goes_on" (defScope s_goes_on) f cdv A outer s H E).env (cxOf (L2.CX P w) P w K mg base n_goes_on "goes_on" (defScope s_goes_on) f cdv A outer s H E).xe := L2.passes_of rfl
  exact (s_cons (s_expr (ps_expr (e_cX c.need_loop tk hr (by decide) (by rfl) (a_cons (e_var (pv 1)) a_nil))))
 (s_cons (s_set (i := 2) (ps_set sc_goes_on.nd rfl (.inl rfl) (e_c c.state_from hr (by decide) (by rfl) (a_cons (e_var (pv 0)) (a_cons (e_con de_int) (a_cons (e_ix (e_var (pv 1)) (e_con de_int)) a_nil))))))
 (s_cons (s_set (i := 3) (ps_set sc_goes_on.nd rfl (.inl rfl) (e_lst a_nil)))
 (s_cons (s_while (ps_while pown (t_notInL hu65 (e_var (pv 2)) (e_var (pv 3))) (s_cons (s_append (i := 3) (ps_expr (pe_bm PySem.F.plainAttrs_list PySem.F.slot_list_append PySem.F.type_list_append mt_append (pv 3) (pa_cons (e_var (pv 2)) pa_nil))))
 (s_one (s_set (i := 2) (ps_set sc_goes_on.nd rfl (.inl rfl) (e_ix (e_c c.passes_end hr (by decide) (by rfl) (a_cons (e_var (pv 0)) (a_cons (e_var (pv 2)) (a_cons (e_ix (e_var (pv 1)) (e_con de_int)) a_nil)))) (e_con de_int))))))))
 (s_cons (s_set (i := 4) (ps_set sc_goes_on.nd rfl (.inl rfl) (e_slice (e_var (pv 3)) (o_some (e_mtK (pe_bm PySem.F.plainAttrs_list PySem.F.slot_list_index PySem.F.type_list_index (mt_indexD hu65) (e_var (pv 3)) (a_cons (e_var (pv 2)) a_nil)) mtD_lindex isLB_ok kmg_lindex)) o_none)))
 (s_one (s_ret (ps_ret (e_callB (pe_callB (cr_any rfl) (by rfl) T.any (by decide +kernel) (a_cons (e_lc rfl sc_goes_on.nd (i_listb (e_var (pv 4))) (blkOk_by (own := [("own", 5)]) (by kernel_rfl)) (fun _ _ _ _ _ => (g_name (pg_name (i := 5) sc_goes_on.nd rfl (.inl rfl)))) (fun _ _ _ _ _ => (e_ix (e_c c.passes_end hr (by decide) (by rfl) (a_cons (e_var (pv 0)) (a_cons (e_var (pv 5)) (a_cons (e_ix (e_var (pv 1)) (e_con de_int)) a_nil)))) (e_con de_int)))) a_nil)) callD_any kcg_any)))))))))
theorem sc__law_machine : FnScope n__law_machine ["d", "most"] (defScope s__law_machine) := ⟨rfl, rfl, rfl, by decide +kernel, rfl, by decide +kernel, by decide +kernel⟩
structure C__law_machine (P : Program) (w : World) (K : PySem.W.Frag) (mg : Str → Option Value) (base : Heap) : Prop where
  _law_take : C8.Cal P w K mg base 1 "_law_take" (dSp K 2 (SC K F_take)) []
  _law_pick : C8.Cal P w K mg base 2 "_law_pick" (dSp K 2 (SC K F__law_pick)) []
set_option maxHeartbeats 3200000 in
theorem WC__law_machine {P : Program} {w : World} {K : PySem.W.Frag} {mg : Str → Option Value} {base : Heap} (T : TT0 P K mg) (c : C__law_machine P w K mg base) (f : Addr) (cdv : Value) (A : Around) (outer : List Env) (s : Shared) (H : Hp) (E : XK) (G : Gd) (hr : Room 2 (A.deeper (PyProof.Rows.envOfC "_law_machine" (defScope s__law_machine) s.heap.objs.size f cdv))) :
    Ss_ (cxOf CX0 P w K mg base n__law_machine "_law_machine" (defScope s__law_machine) f cdv A outer s H E).nox G wTrue ((defBody s__law_machine)) B__law_machine := by
  have hu1 := (room_units hr).1; have hu64 := (room_units hr).2.1; have hu65 := (room_units hr).2.2
  exact (s_cons (s_set (i := 2) (ps_set sc__law_machine.nd rfl (.inr rfl) (e_c c._law_pick hr (by decide) (by rfl) (a_cons (e_var (pv 0)) (a_fcons (e_lst (a_cons (e_con de_str) (a_cons (e_con de_str) (a_cons (e_con de_str) (a_cons (e_con de_str) a_nil))))) a_nil)))))
 (s_cons (s_set (i := 3) (ps_set sc__law_machine.nd rfl (.inr rfl) (e_add (e_con de_int) (e_c c._law_take hr (by decide) (by rfl) (a_cons (e_var (pv 0)) (a_cons (e_var (pv 1)) a_nil))))))
 (s_cons (s_set (i := 4) (ps_set sc__law_machine.nd rfl (.inl rfl) (e_callB (pe_callTy call_tuple_of (by rfl) T.tuple (by decide +kernel) (a_cons (e_lc rfl sc__law_machine.nd (i_range1 (st := true) (by rfl) T.range (a_cons (e_var (pv 3)) a_nil)) (blkOk_by (own := [("state", 5)]) (by kernel_rfl)) (fun _ _ _ _ _ => (g_name (pg_name (i := 5) sc__law_machine.nd rfl (.inl rfl)))) (fun _ _ _ _ _ => (e_callB (pe_callTy call_tuple_of (by rfl) T.tuple (by decide +kernel) (a_cons (e_lc rfl sc__law_machine.nd (i_str (e_var (pv 2))) (blkOk_by (own := [("sign", 6)]) (by kernel_rfl)) (fun _ _ _ _ _ => (g_name (pg_name (i := 6) sc__law_machine.nd rfl (.inl rfl)))) (fun _ _ _ _ _ => (e_c c._law_take hr (by decide) (by rfl) (a_cons (e_var (pv 0)) (a_cons (e_var (pv 3)) a_nil))))) a_nil)) callD_tuple kcg_tupOf))) a_nil)) callD_tuple kcg_tupOf)))
 (s_one (s_ret (ps_ret (e_tup (a_cons (e_var (pv 2)) (a_cons (e_var (pv 4)) (a_cons (e_callB (pe_callTy call_tuple_of (by rfl) T.tuple (by decide +kernel) (a_cons (e_lcIf rfl sc__law_machine.nd (i_range1 (st := true) (by rfl) T.range (a_cons (e_var (pv 3)) a_nil)) (blkOk_by (own := [("state", 5)]) (by kernel_rfl)) (fun _ _ _ _ _ => (g_name (pg_name (i := 5) sc__law_machine.nd rfl (.inl rfl)))) (fun _ _ _ _ _ => (t_eq hu64 (e_c c._law_take hr (by decide) (by rfl) (a_cons (e_var (pv 0)) (a_cons (e_con de_int) a_nil))) (e_con de_int))) (fun _ _ _ _ _ => (e_var (pv 5)))) a_nil)) callD_tuple kcg_tupOf) a_nil))))))))))
theorem sc_same_lasso : FnScope n_same_lasso ["one", "other"] (defScope s_same_lasso) := ⟨rfl, rfl, rfl, by decide +kernel, rfl, by decide +kernel, by decide +kernel⟩
structure C_same_lasso (P : Program) (w : World) (K : PySem.W.Frag) (mg : Str → Option Value) (base : Heap) : Prop where
  least_lasso : CalX P w K mg base 3 "least_lasso" (dSp K 1 (SF K F_least_lasso))
set_option maxHeartbeats 3200000 in
theorem WX_same_lasso {P : Program} {w : World} {K : PySem.W.Frag} {mg : Str → Option Value} {base : Heap} (T : TT0 P K mg) (c : C_same_lasso P w K mg base) (f : Addr) (cdv : Value) (A : Around) (outer : List Env) (s : Shared) (H : Hp) (E : XK) (G : Gd) (hr : Room 3 (A.deeper (PyProof.Rows.envOfC "same_lasso" (defScope s_same_lasso) s.heap.objs.size f cdv))) :
    Ss_ (cxOf (L2.CX P w) P w K mg base n_same_lasso "same_lasso" (defScope s_same_lasso) f cdv A outer s H E) G (fun cls d _ H => E cls d H) ((defBody s_same_lasso)) B_same_lasso := by
  have hu1 := (room_units hr).1; have hu64 := (room_units hr).2.1; have hu65 := (room_units hr).2.2
  have tk : Takes (cxOf (L2.CX P w) P w K mg base n_same_lasso "same_lasso" (defScope s_same_lasso) f cdv A outer s H E) (fun cls d _ H => E cls d H) := takes_of rfl rfl rfl rfl; have pown : PassesOwn (model P w) (cxOf (L2.CX P w) P w K mg base n_same_lasso "same_lasso" (defScope s_same_lasso) f cdv A outer s H E).A (cxOf (L2.CX P w) P w K mg base n_same_lasso "same_lasso" (defScope s_same_lasso) f cdv A outer s H E).env (cxOf (L2.CX P w) P w K mg base n_same_lasso "same_lasso" (defScope s_same_lasso) f cdv A outer s H E).xe := L2.passes_of rfl
  exact (s_one (s_ret (ps_ret (e_eq hu64 (e_cX c.least_lasso tk hr (by decide) (by rfl) (a_cons (e_var (pv 0)) a_nil)) (e_cX c.least_lasso tk hr (by decide) (by rfl) (a_cons (e_var (pv 1)) a_nil))))))
theorem sc_least_going_on : FnScope n_least_going_on ["machine"] (defScope s_least_going_on) := ⟨rfl, rfl, rfl, by decide +kernel, rfl, by decide +kernel, by decide +kernel⟩
structure C_least_going_on (P : Program) (w : World) (K : PySem.W.Frag) (mg : Str → Option Value) (base : Heap) : Prop where
  least_words : C8.Cal P w K mg base 1 "least_words" (dSp K 1 (SC K F_least_words)) []
  words_back : C8.Cal P w K mg base 1 "words_back" (dSp K 2 (SC K F_words_back)) []
  least_lasso : CalX P w K mg base 3 "least_lasso" (dSp K 1 (SF K F_least_lasso))
set_option maxHeartbeats 3200000 in
theorem WX_least_going_on {P : Program} {w : World} {K : PySem.W.Frag} {mg : Str → Option Value} {base : Heap} (T : TT0 P K mg) (c : C_least_going_on P w K mg base) (f : Addr) (cdv : Value) (A : Around) (outer : List Env) (s : Shared) (H : Hp) (E : XK) (G : Gd) (hr : Room 3 (A.deeper (PyProof.Rows.envOfC "least_going_on" (defScope s_least_going_on) s.heap.objs.size f cdv))) :
    Ss_ (cxOf (L2.CX P w) P w K mg base n_least_going_on "least_going_on" (defScope s_least_going_on) f cdv A outer s H E) G (fun cls d _ H => E cls d H) ((defBody s_least_going_on)) B_least_going_on := by
  have hu1 := (room_units hr).1; have hu64 := (room_units hr).2.1; have hu65 := (room_units hr).2.2
  have tk : Takes (cxOf (L2.CX P w) P w K mg base n_least_going_on "least_going_on" (defScope s_least_going_on) f cdv A outer s H E) (fun cls d _ H => E cls d H) := takes_of rfl rfl rfl rfl; have pown : PassesOwn (model P w) (cxOf (L2.CX P w) P w K mg base n_least_going_on "least_going_on" (defScope s_least_going_on) f cdv A outer s H E).A (cxOf (L2.CX P w) P w K mg base n_least_going_on "least_going_on" (defScope s_least_going_on) f cdv A outer s H E).env (cxOf (L2.CX P w) P w K mg base n_least_going_on "least_going_on" (defScope s_least_going_on) f cdv A outer s H E).xe := L2.passes_of rfl
  exact (s_cons (s_for (ps_for pown rfl (i_items (e_frz (e_c c.least_words hr (by decide) (by rfl) (a_cons (e_var (pv 0)) a_nil)))) (g_tup (n := 2) rfl (gs_cons (g_name (pg_name (i := 1) sc_least_going_on.nd rfl (.inl rfl))) (gs_cons (g_name (pg_name (i := 2) sc_least_going_on.nd rfl (.inl rfl))) gs_nil))) (s_one (s_if (t_inT (e_var (pv 1)) (e_ix (e_var (pv 0)) (e_con de_int))) (s_cons (s_set (i := 3) (ps_set sc_least_going_on.nd rfl (.inl rfl) (e_get1 hu1 (e_c c.words_back hr (by decide) (by rfl) (a_cons (e_var (pv 0)) (a_cons (e_var (pv 1)) a_nil))) (e_var (pv 1)))))
 (s_one (s_if (t_notN (e_var (pv 3)) (e_con de_non)) (s_one (s_ret (ps_ret (e_cX c.least_lasso tk hr (by decide) (by rfl) (a_cons (e_tup (a_cons (e_var (pv 2)) (a_cons (e_var (pv 3)) a_nil))) a_nil))))) s_nil))) s_nil))))
 (s_one (s_ret (ps_ret (e_con de_non)))))
theorem sc__law_code : FnScope n__law_code ["which", "machine"] (defScope s__law_code) := ⟨rfl, rfl, rfl, by decide +kernel, rfl, by decide +kernel, by decide +kernel⟩
structure C__law_code (P : Program) (w : World) (K : PySem.W.Frag) (mg : Str → Option Value) (base : Heap) : Prop where
  least_lasso : CalX P w K mg base 3 "least_lasso" (dSp K 1 (SF K F_least_lasso))
  sign_at : CalX P w K mg base 3 "sign_at" (dSp K 2 (SF K F_sign_at))
  goes_on : CalX P w K mg base 3 "goes_on" (dSp K 2 (SF K F_goes_on))
set_option maxHeartbeats 3200000 in
theorem WC__law_code {P : Program} {w : World} {K : PySem.W.Frag} {mg : Str → Option Value} {base : Heap} (T : TT0 P K mg) (c : C__law_code P w K mg base) (f : Addr) (cdv : Value) (A : Around) (outer : List Env) (s : Shared) (H : Hp) (E : XK) (G : Gd) (hr : Room 3 (A.deeper (PyProof.Rows.envOfC "_law_code" (defScope s__law_code) s.heap.objs.size f cdv))) :
    Ss_ (cxOf CX0 P w K mg base n__law_code "_law_code" (defScope s__law_code) f cdv A outer s H E).nox G wFalse ((defBody s__law_code)) B__law_code := by
  have hu1 := (room_units hr).1; have hu64 := (room_units hr).2.1; have hu65 := (room_units hr).2.2
  have tk : Takes (cxOf CX0 P w K mg base n__law_code "_law_code" (defScope s__law_code) f cdv A outer s H E).nox wFalse := takes_nox
  exact (s_cons (s_tryA (x := "InputError") (i := 2) rfl (TabOk.cons T.m_InputError_InputError TabOk.nil) (xf_of T.t_InputError) T.t_InputError.noN rfl rfl sc__law_code.nd rfl rfl ⟨by rfl, by decide, .inl T.t_InputError.gC⟩ tk (fun W2 pn xe tk2 => (s_one (s_if (t_eq hu64 (e_var (pv 0)) (e_con de_int)) (s_one (s_expr (ps_expr (e_cX c.least_lasso tk2 hr (by decide) (by rfl) (a_cons (e_tup (a_cons (e_con de_str) (a_cons (e_con de_str) a_nil))) a_nil))))) (s_one (s_if (t_eq hu64 (e_var (pv 0)) (e_con de_int)) (s_one (s_expr (ps_expr (e_cX c.sign_at tk2 hr (by decide) (by rfl) (a_cons (e_tup (a_cons (e_con de_str) (a_cons (e_con de_str) a_nil))) (a_cons (e_con de_int) a_nil)))))) (s_one (s_expr (ps_expr (e_cX c.goes_on tk2 hr (by decide) (by rfl) (a_cons (e_var (pv 1)) (a_cons (e_tup (a_cons (e_con de_str) (a_cons (e_con de_str) a_nil))) a_nil))))))))))) (fun _ _ => pv 2))
 (s_one (s_ret (ps_ret (e_con de_str)))))
theorem sc_law : FnScope n_law ["script"] (defScope s_law) := ⟨rfl, rfl, rfl, by decide +kernel, rfl, by decide +kernel, by decide +kernel⟩
structure C_law (P : Program) (w : World) (K : PySem.W.Frag) (mg : Str → Option Value) (base : Heap) : Prop where
  least_lasso : CalX P w K mg base 3 "least_lasso" (dSp K 1 (SF K F_least_lasso))
  same_lasso : CalX P w K mg base 4 "same_lasso" (dSp K 2 (SF K F_same_lasso))
  sign_at_c : C8.Cal P w K mg base 3 "sign_at" (dSp K 2 (SC K F_sign_at)) []
  goes_on : CalX P w K mg base 3 "goes_on" (dSp K 2 (SF K F_goes_on))
  least_going_on : CalX P w K mg base 4 "least_going_on" (dSp K 1 (SF K F_least_going_on))
  _law_pick : C8.Cal P w K mg base 2 "_law_pick" (dSp K 2 (SC K F__law_pick)) []
  _law_all : C8.Cal P w K mg base 2 "_law_all" (dSp K 2 (SC K F__law_all)) []
  _law_machine : C8.Cal P w K mg base 3 "_law_machine" (dSp K 2 (SC K F__law_machine)) []
  _law_state : C8.Cal P w K mg base 1 "_law_state" (dSp K 3 (SC K F__law_state)) []
  _law_reach : C8.Cal P w K mg base 1 "_law_reach" (dSp K 1 (SC K F__law_reach)) []
  _law_code : C8.Cal P w K mg base 4 "_law_code" (dSp K 2 (SC K F__law_code)) []
  _law_far : C8.Cal P w K mg base 1 "_law_far" (dSp K 1 (SC K F__law_far)) []
  _law_goes : C8.Cal P w K mg base 2 "_law_goes" (dSp K 2 (SC K F__law_goes)) []
set_option maxHeartbeats 3200000 in
theorem WX_law {P : Program} {w : World} {K : PySem.W.Frag} {mg : Str → Option Value} {base : Heap} (T : TT0 P K mg) (c : C_law P w K mg base) (f : Addr) (cdv : Value) (A : Around) (outer : List Env) (s : Shared) (H : Hp) (E : XK) (G : Gd) (hr : Room 4 (A.deeper (PyProof.Rows.envOfC "law" (defScope s_law) s.heap.objs.size f cdv))) :
    Ss_ (cxOf (L2.CX P w) P w K mg base n_law "law" (defScope s_law) f cdv A outer s H E) G (fun cls d _ H => E cls d H) ((defBody s_law).drop 1) B_law := by
  have hu1 := (room_units hr).1; have hu64 := (room_units hr).2.1; have hu65 := (room_units hr).2.2
  have tk : Takes (cxOf (L2.CX P w) P w K mg base n_law "law" (defScope s_law) f cdv A outer s H E) (fun cls d _ H => E cls d H) := takes_of rfl rfl rfl rfl; have pown : PassesOwn (model P w) (cxOf (L2.CX P w) P w K mg base n_law "law" (defScope s_law) f cdv A outer s H E).A (cxOf (L2.CX P w) P w K mg base n_law "law" (defScope s_law) f cdv A outer s H E).env (cxOf (L2.CX P w) P w K mg base n_law "law" (defScope s_law) f cdv A outer s H E).xe := L2.passes_of rfl
  exact (s_cons (s_set (i := 2) (ps_set sc_law.nd rfl (.inr rfl) (e_c c._law_machine hr (by decide) (by rfl) (a_cons (e_var (pv 1)) (a_cons (e_con de_int) a_nil)))))
 (s_cons (s_if (t_ne hu64 (e_lc rfl sc_law.nd (i_tup (e_tup (a_cons (e_con de_int) (a_cons (e_con de_int) (a_cons (e_con de_int) a_nil))))) (blkOk_by (own := [("which", 18)]) (by kernel_rfl)) (fun _ _ _ _ _ => (g_name (pg_name (i := 18) sc_law.nd rfl (.inl rfl)))) (fun _ _ _ _ _ => (e_c c._law_code hr (by decide) (by rfl) (a_cons (e_var (pv 18)) (a_cons (e_var (pv 2)) a_nil))))) (e_mulL (e_lst (a_cons (e_con de_str) a_nil)) (e_con de_int))) (s_one (s_ret (ps_ret (e_con de_bl)))) s_nil)
 (s_cons (s_set (i := 3) (ps_set sc_law.nd rfl (.inl rfl) (e_ix (e_var (pv 2)) (e_con de_int))))
 (s_cons (s_set (i := 4) (ps_set sc_law.nd rfl (.inl rfl) (e_c c._law_all hr (by decide) (by rfl) (a_cons (e_var (pv 3)) (a_cons (e_con de_int) a_nil)))))
 (s_cons (s_for (ps_for pown rfl (i_range1 (st := true) (by rfl) T.range (a_cons (e_con de_int) a_nil)) (g_name (pg_name (i := 5) sc_law.nd rfl (.inl rfl))) (s_cons (s_frzD (i := 4) (s_set (i := 6) (ps_set sc_law.nd rfl (.inr rfl) (e_tup (a_fcons (e_c c._law_pick hr (by decide) (by rfl) (a_cons (e_var (pv 1)) (a_cons (e_var (pv 4)) a_nil))) (a_fcons (e_c c._law_pick hr (by decide) (by rfl) (a_cons (e_var (pv 1)) (a_fcons (e_slice (e_var (pv 4)) (o_some (e_con de_int)) o_none) a_nil))) a_nil))))))
 (s_cons (s_set (i := 7) (ps_set sc_law.nd rfl (.inl rfl) (e_c c._law_pick hr (by decide) (by rfl) (a_cons (e_var (pv 1)) (a_fcons (e_lst (a_cons (e_tup (a_fcons (e_c c._law_pick hr (by decide) (by rfl) (a_cons (e_var (pv 1)) (a_cons (e_var (pv 4)) a_nil))) (a_fcons (e_c c._law_pick hr (by decide) (by rfl) (a_cons (e_var (pv 1)) (a_fcons (e_slice (e_var (pv 4)) (o_some (e_con de_int)) o_none) a_nil))) a_nil))) (a_cons (e_tup (a_cons (e_add (e_ix (e_var (pv 6)) (e_con de_int)) (e_ix (e_var (pv 6)) (e_con de_int))) (a_cons (e_add (e_ix (e_var (pv 6)) (e_con de_int)) (e_ix (e_var (pv 6)) (e_con de_int))) a_nil))) (a_cons (e_tup (a_cons (e_add (e_ix (e_var (pv 6)) (e_con de_int)) (e_slice (e_ix (e_var (pv 6)) (e_con de_int)) o_none (o_some (e_con de_int)))) (a_cons (e_add (e_slice (e_ix (e_var (pv 6)) (e_con de_int)) (o_some (e_con de_int)) o_none) (e_slice (e_ix (e_var (pv 6)) (e_con de_int)) o_none (o_some (e_con de_int)))) a_nil))) a_nil)))) a_nil)))))
 (s_cons (s_set (i := 8) (ps_set sc_law.nd rfl (.inl rfl) (e_eq hu64 (e_c c._law_far hr (by decide) (by rfl) (a_cons (e_var (pv 6)) a_nil)) (e_c c._law_far hr (by decide) (by rfl) (a_cons (e_var (pv 7)) a_nil)))))
 (s_cons (s_if (t_w (w_or (t_ne hu64 (e_cX c.same_lasso tk hr (by decide) (by rfl) (a_cons (e_var (pv 6)) (a_cons (e_var (pv 7)) a_nil))) (e_var (pv 8))) (w_or1 (t_ne hu64 (e_eq hu64 (e_cX c.least_lasso tk hr (by decide) (by rfl) (a_cons (e_var (pv 6)) a_nil)) (e_cX c.least_lasso tk hr (by decide) (by rfl) (a_cons (e_var (pv 7)) a_nil))) (e_var (pv 8)))))) (s_one (s_ret (ps_ret (e_con de_bl)))) s_nil)
 (s_cons (s_set (i := 9) (ps_set sc_law.nd rfl (.inl rfl) (e_con de_non)))
 (s_cons (s_for (ps_for pown rfl (i_range1 (st := true) (by rfl) T.range (a_cons (e_add (e_callB (pe_callB call_len (by rfl) T.len boot_len (a_cons (e_ix (e_var (pv 6)) (e_con de_int)) a_nil)) callD_len kcg_len) (e_con de_int)) a_nil)) (g_name (pg_name (i := 10) sc_law.nd rfl (.inl rfl))) (s_one (s_for (ps_for pown rfl (i_range2 (st := true) (by rfl) T.range (a_cons (e_con de_int) (a_cons (e_add (e_callB (pe_callB call_len (by rfl) T.len boot_len (a_cons (e_ix (e_var (pv 6)) (e_con de_int)) a_nil)) callD_len kcg_len) (e_con de_int)) a_nil))) (g_name (pg_name (i := 11) sc_law.nd rfl (.inl rfl))) (s_cons (s_set (i := 12) (ps_set sc_law.nd rfl (.inl rfl) (e_tup (a_cons (e_slice (e_c c._law_far hr (by decide) (by rfl) (a_cons (e_var (pv 6)) a_nil)) o_none (o_some (e_var (pv 10)))) (a_cons (e_slice (e_c c._law_far hr (by decide) (by rfl) (a_cons (e_var (pv 6)) a_nil)) (o_some (e_var (pv 10))) (o_some (e_add (e_var (pv 10)) (e_var (pv 11))))) a_nil)))))
 (s_one (s_set (i := 9) (ps_set sc_law.nd rfl (.inl rfl) (e_if (t_w (w_and (t_isN (e_var (pv 9)) (e_con de_non)) (w_and1 (t_eq hu64 (e_c c._law_far hr (by decide) (by rfl) (a_cons (e_var (pv 12)) a_nil)) (e_c c._law_far hr (by decide) (by rfl) (a_cons (e_var (pv 6)) a_nil)))))) (e_var (pv 12)) (e_var (pv 9))))))))))))
 (s_cons (s_if (t_w (w_or (t_ne hu64 (e_cX c.least_lasso tk hr (by decide) (by rfl) (a_cons (e_var (pv 6)) a_nil)) (e_var (pv 9))) (w_or1 (t_ne hu64 (e_mtK (pe_bm PySem.F.plainAttrs_str PySem.F.slot_str_join PySem.F.type_str_join mt_join (e_con de_str) (a_cons (e_lc rfl sc_law.nd (i_range1 (st := true) (by rfl) T.range (a_cons (e_con de_int) a_nil)) (blkOk_by (own := [("k", 20)]) (by kernel_rfl)) (fun _ _ _ _ _ => (g_name (pg_name (i := 20) sc_law.nd rfl (.inl rfl)))) (fun _ _ _ _ _ => (e_c c.sign_at_c hr (by decide) (by rfl) (a_cons (e_var (pv 6)) (a_cons (e_var (pv 20)) a_nil))))) a_nil)) mtD_join isSB_ok kmg_join) (e_slice (e_c c._law_far hr (by decide) (by rfl) (a_cons (e_var (pv 6)) a_nil)) o_none (o_some (e_con de_int))))))) (s_one (s_ret (ps_ret (e_con de_bl)))) s_nil)
 (s_one (s_if (t_ne hu64 (e_cX c.goes_on tk hr (by decide) (by rfl) (a_cons (e_var (pv 2)) (a_cons (e_var (pv 6)) a_nil))) (e_c c._law_goes hr (by decide) (by rfl) (a_cons (e_var (pv 2)) (a_cons (e_var (pv 6)) a_nil)))) (s_one (s_ret (ps_ret (e_con de_bl)))) s_nil)))))))))))
 (s_cons (s_set (i := 13) (ps_set sc_law.nd rfl (.inl rfl) (e_c c._law_reach hr (by decide) (by rfl) (a_cons (e_var (pv 2)) a_nil))))
 (s_cons (s_set (i := 14) (ps_set sc_law.nd rfl (.inl rfl) (e_con de_non)))
 (s_cons (s_frzD (i := 13) (s_for (ps_for pown rfl (i_keys (e_var (pv 13))) (g_name (pg_name (i := 15) sc_law.nd rfl (.inr rfl))) (s_one (s_if (t_w (w_and (t_inT (e_var (pv 15)) (e_ix (e_var (pv 2)) (e_con de_int))) (w_and1 (t_isN (e_var (pv 14)) (e_con de_non))))) (s_cons (s_setLcIf (i := 16) rfl sc_law.nd rfl rfl (sw_true rfl rfl rfl (by decide +kernel)) (i_listb (e_slice (e_c c._law_all hr (by decide) (by rfl) (a_cons (e_var (pv 3)) (a_cons (e_con de_int) a_nil))) (o_some (e_con de_int)) o_none)) (blkOk_by (own := [("word", 19)]) (by kernel_rfl)) (fun _ _ _ _ _ => (g_name (pg_name (i := 19) sc_law.nd rfl (.inl rfl)))) (fun _ _ _ _ _ => (t_eq hu64 (e_c c._law_state hr (by decide) (by rfl) (a_cons (e_var (pv 2)) (a_cons (e_var (pv 15)) (a_cons (e_var (pv 19)) a_nil)))) (e_var (pv 15)))) (fun _ _ _ _ _ => (e_var (pv 19))))
 (s_one (s_set (i := 14) (ps_set sc_law.nd rfl (.inl rfl) (e_if (t_gt (e_callB (pe_callB call_len (by rfl) T.len boot_len (a_cons (e_var (pv 16)) a_nil)) callD_len kcg_len) (e_con de_int)) (e_tup (a_fcons (e_dgz hu1 (e_var (pv 13)) (e_var (pv 15))) (a_fcons (e_ix (e_var (pv 16)) (e_con de_int)) a_nil))) (e_con de_non)))))) s_nil)))))
 (s_cons (s_set (i := 17) (ps_set sc_law.nd rfl (.inl rfl) (e_cX c.least_going_on tk hr (by decide) (by rfl) (a_cons (e_var (pv 2)) a_nil))))
 (s_one (s_ret (ps_ret (e_and (e_eq hu64 (e_var (pv 17)) (e_if (t_isN (e_var (pv 14)) (e_con de_non)) (e_con de_non) (e_cX c.least_lasso tk hr (by decide) (by rfl) (a_cons (e_var (pv 14)) a_nil)))) (e_one (e_or (e_isN (e_var (pv 17)) (e_con de_non)) (e_one (e_c c._law_goes hr (by decide) (by rfl) (a_cons (e_var (pv 2)) (a_cons (e_var (pv 17)) a_nil)))))))))))))))))))
end K40
set_option Elab.async false
set_option linter.all false
set_option maxRecDepth 100000
set_option maxHeartbeats 4000000
namespace K40
open PySem PySem.Spec L2 DW FW
abbrev s_begin : Stmt := top 20
abbrev s_take : Stmt := top 21
theorem sc_begin : FnScope nBegin ["script"] (defScope s_begin) := ⟨rfl, rfl, rfl, by decide +kernel, rfl, by decide +kernel, by decide +kernel⟩
theorem sc_take : FnScope nTake ["d", "many"] (defScope s_take) := ⟨rfl, rfl, rfl, by decide +kernel, rfl, by decide +kernel, by decide +kernel⟩
section
variable {P : Program} {w : World} {K : PySem.W.Frag} {mg : Str → Option Value} {base : Heap}
theorem bd_begin (T : TT0 P K mg) {f : Addr} (cdv : Value) (A : Around) (outer : List Env) (s : Shared) (H : Hp) (E : XK) : PSs (cxOf CX0 P w K mg base nBegin "_law_begin" (defScope s_begin) f cdv A outer s H E).nox (defBody s_begin) (t_begin K) :=
  pss_cons (ps_set (i := 1) sc_begin.nd rfl (.inl rfl) pe_int) (pss_cons (ps_for PassesOwn.never rfl (pi_list (pv 0)) (pg_name (i := 2) sc_begin.nd rfl (.inl rfl)) (pss_one (ps_set (i := 1) sc_begin.nd rfl (.inl rfl) (pe_op op_mod (pe_op op_add (pe_op op_add (pe_op op_mul (pv 1) pe_int) (pe_op op_mod (pe_callTy call_int1 (by rfl) T.int (by decide +kernel) (pa_cons (pv 2) pa_nil)) pe_int)) pe_int) pe_int))))
    (pss_one (ps_ret (pe_lst (pa_cons (pe_callTy call_list_of (by rfl) T.list (by decide +kernel) (pa_cons (pv 0) pa_nil)) (pa_cons pe_int (pa_cons pe_int (pa_cons (pv 1) pa_nil))))))))
theorem bd_take (T : TT0 P K mg) {f : Addr} (cdv : Value) (A : Around) (outer : List Env) (s : Shared) (H : Hp) (E : XK) : PSs (cxOf CX0 P w K mg base nTake "_law_take" (defScope s_take) f cdv A outer s H E).nox (defBody s_take) (t_take K) :=
  pss_cons (ps_if (PW.pt (pw_and (pt_cmpR op_eq (pe_ix ix_list (pv 0) pe_int (fun _ _ => rfl)) pe_int (nomark _)) (pw_and1 (pt_cmpR op_lt (pe_ix ix_list (pv 0) pe_int (fun _ _ => rfl)) (pe_callB call_len (by rfl) T.len boot_len (pa_cons (pe_ix ix_list (pv 0) pe_int (fun _ _ => rfl)) pa_nil)) (nomark _)))))
     (pss_cons (ps_asg (pe_callB call_abs (by rfl) T.abs (by decide +kernel) (pa_cons (pe_callTy call_int1 (by rfl) T.int (by decide +kernel) (pa_cons (pe_ix ix_list (pe_ix ix_list (pv 0) pe_int (fun _ _ => rfl)) (pe_ix ix_list (pv 0) pe_int (fun _ _ => rfl)) (fun _ _ => rfl)) pa_nil)) pa_nil)) (pg_sub (pv 0) pe_int set_list)) (pss_cons (ps_asg (pe_op op_add (pe_ix ix_list (pv 0) pe_int (fun _ _ => rfl)) pe_int) (pg_sub (pv 0) pe_int set_list))
     (pss_one (ps_if (pt_cmpR op_lt (pe_ix ix_list (pv 0) pe_int (fun _ _ => rfl)) (pe_op op_pow pe_int pe_int) (nomark _)) (pss_cons (ps_set (i := 2) sc_take.nd rfl (.inl rfl) (pe_callTy call_int1 (by rfl) T.int (by decide +kernel) (pa_cons (pe_ix ix_list (pv 0) pe_int (fun _ _ => rfl)) pa_nil))) (pss_cons (ps_asg pe_int (pg_sub (pv 0) pe_int set_list)) (pss_one (ps_ret (pe_op op_mod (pv 2) (pv 1)))))) pss_nil)))) pss_nil)
    (pss_cons (ps_if (pt_cmpR op_gt (pe_ix ix_list (pv 0) pe_int (fun _ _ => rfl)) pe_int (nomark _)) (pss_cons (ps_set (i := 3) sc_take.nd rfl (.inl rfl) (pe_op op_mod (pe_callTy call_int1 (by rfl) T.int (by decide +kernel) (pa_cons (pe_ix ix_list (pv 0) pe_int (fun _ _ => rfl)) pa_nil)) (pv 1))) (pss_cons (ps_asg (pe_op op_fdivNN (pe_callTy call_int1 (by rfl) T.int (by decide +kernel) (pa_cons (pe_ix ix_list (pv 0) pe_int (fun _ _ => rfl)) pa_nil)) (pv 1)) (pg_sub (pv 0) pe_int set_list)) (pss_one (ps_ret (pv 3))))) pss_nil)
    (pss_cons (ps_asg (pe_op op_mod (pe_callTy call_int1 (by rfl) T.int (by decide +kernel) (pa_cons (pe_op op_add (pe_op op_mul (pe_ix ix_list (pv 0) pe_int (fun _ _ => rfl)) pe_int) pe_int) pa_nil)) pe_int) (pg_sub (pv 0) pe_int set_list)) (pss_one (ps_ret (pe_op op_mod (pe_callTy call_int1 (by rfl) T.int (by decide +kernel) (pa_cons (pe_op op_fdiv (pe_ix ix_list (pv 0) pe_int (fun _ _ => rfl)) pe_int) pa_nil)) (pv 1))))))
/-- what the head tells of the defs -/
structure Fs (K : PySem.W.Frag) (mg : Str → Option Value) : Prop where
  f_state_from : ∃ fd, FnP K "state_from" s_state_from (He.ga K "state_from") fd
  g_state_from : mg "state_from" = some (.ref (He.ga K "state_from"))
  f_least_words : ∃ fd, FnP K "least_words" s_least_words (He.ga K "least_words") fd
  g_least_words : mg "least_words" = some (.ref (He.ga K "least_words"))
  f_root : ∃ fd, FnP K "root" s_root (He.ga K "root") fd
  g_root : mg "root" = some (.ref (He.ga K "root"))
  f_words_back : ∃ fd, FnP K "words_back" s_words_back (He.ga K "words_back") fd
  g_words_back : mg "words_back" = some (.ref (He.ga K "words_back"))
  f_need_loop : ∃ fd, FnP K "need_loop" s_need_loop (He.ga K "need_loop") fd
  g_need_loop : mg "need_loop" = some (.ref (He.ga K "need_loop"))
  f_least_lasso : ∃ fd, FnP K "least_lasso" s_least_lasso (He.ga K "least_lasso") fd
  g_least_lasso : mg "least_lasso" = some (.ref (He.ga K "least_lasso"))
  f_same_lasso : ∃ fd, FnP K "same_lasso" s_same_lasso (He.ga K "same_lasso") fd
  g_same_lasso : mg "same_lasso" = some (.ref (He.ga K "same_lasso"))
  f_sign_at : ∃ fd, FnP K "sign_at" s_sign_at (He.ga K "sign_at") fd
  g_sign_at : mg "sign_at" = some (.ref (He.ga K "sign_at"))
  f_passes_end : ∃ fd, FnP K "passes_end" s_passes_end (He.ga K "passes_end") fd
  g_passes_end : mg "passes_end" = some (.ref (He.ga K "passes_end"))
  f_goes_on : ∃ fd, FnP K "goes_on" s_goes_on (He.ga K "goes_on") fd
  g_goes_on : mg "goes_on" = some (.ref (He.ga K "goes_on"))
  f_least_going_on : ∃ fd, FnP K "least_going_on" s_least_going_on (He.ga K "least_going_on") fd
  g_least_going_on : mg "least_going_on" = some (.ref (He.ga K "least_going_on"))
  f__law_begin : ∃ fd, FnP K "_law_begin" s_begin (He.ga K "_law_begin") fd
  g__law_begin : mg "_law_begin" = some (.ref (He.ga K "_law_begin"))
  f__law_take : ∃ fd, FnP K "_law_take" s_take (He.ga K "_law_take") fd
  g__law_take : mg "_law_take" = some (.ref (He.ga K "_law_take"))
  f__law_pick : ∃ fd, FnP K "_law_pick" s__law_pick (He.ga K "_law_pick") fd
  g__law_pick : mg "_law_pick" = some (.ref (He.ga K "_law_pick"))
  f__law_all : ∃ fd, FnP K "_law_all" s__law_all (He.ga K "_law_all") fd
  g__law_all : mg "_law_all" = some (.ref (He.ga K "_law_all"))
  f__law_longer : ∃ fd, FnP K "_law_longer" s__law_longer (He.ga K "_law_longer") fd
  g__law_longer : mg "_law_longer" = some (.ref (He.ga K "_law_longer"))
  f__law_machine : ∃ fd, FnP K "_law_machine" s__law_machine (He.ga K "_law_machine") fd
  g__law_machine : mg "_law_machine" = some (.ref (He.ga K "_law_machine"))
  f__law_state : ∃ fd, FnP K "_law_state" s__law_state (He.ga K "_law_state") fd
  g__law_state : mg "_law_state" = some (.ref (He.ga K "_law_state"))
  f__law_reach : ∃ fd, FnP K "_law_reach" s__law_reach (He.ga K "_law_reach") fd
  g__law_reach : mg "_law_reach" = some (.ref (He.ga K "_law_reach"))
  f__law_code : ∃ fd, FnP K "_law_code" s__law_code (He.ga K "_law_code") fd
  g__law_code : mg "_law_code" = some (.ref (He.ga K "_law_code"))
  f__law_far : ∃ fd, FnP K "_law_far" s__law_far (He.ga K "_law_far") fd
  g__law_far : mg "_law_far" = some (.ref (He.ga K "_law_far"))
  f__law_goes : ∃ fd, FnP K "_law_goes" s__law_goes (He.ga K "_law_goes") fd
  g__law_goes : mg "_law_goes" = some (.ref (He.ga K "_law_goes"))
  f_law : ∃ fd, FnP K "law" s_law (He.ga K "law") fd
  g_law : mg "law" = some (.ref (He.ga K "law"))
variable (T : TT0 P K mg) (Z : Fs K mg)
include T Z
theorem k_state_from_c : C8.Cal P w K mg base 1 "state_from" (dSp K 3 (SC K F_state_from)) [] := by
  obtain ⟨fd, FT⟩ := Z.f_state_from
  refine ⟨_, fd, ["machine", "state", "word"], [], ?_, Z.g_state_from, FT.kp, FT.bindsN (ps := ["machine", "state", "word"]) fun _ _ _ _ _ _ us hl => match us, hl with | [_, _, _], _ => rfl, .nil⟩
  exact dfn_ok (fun_of FT) sc_state_from rfl (by decide) (fun cdv A outer s H E G hr => WC_state_from T ⟨trivial⟩ _ cdv A outer s H E G hr) (fun rs P _ _ h => sem_F (PX := fun _ => False) h) (fun _ _ _ h => h)
theorem k_least_words_c : C8.Cal P w K mg base 1 "least_words" (dSp K 1 (SC K F_least_words)) [] := by
  obtain ⟨fd, FT⟩ := Z.f_least_words
  refine ⟨_, fd, ["machine"], [], ?_, Z.g_least_words, FT.kp, FT.bindsN (ps := ["machine"]) fun _ _ _ _ _ _ us hl => match us, hl with | [_], _ => rfl, .nil⟩
  exact dfn_ok (fun_of FT) sc_least_words rfl (by decide) (fun cdv A outer s H E G hr => WC_least_words T ⟨trivial⟩ _ cdv A outer s H E G hr) (fun rs P _ _ h => sem_F (PX := fun _ => False) h) (fun _ _ _ h => h)
theorem k_words_back_c : C8.Cal P w K mg base 1 "words_back" (dSp K 2 (SC K F_words_back)) [] := by
  obtain ⟨fd, FT⟩ := Z.f_words_back
  refine ⟨_, fd, ["machine", "start"], [], ?_, Z.g_words_back, FT.kp, FT.bindsN (ps := ["machine", "start"]) fun _ _ _ _ _ _ us hl => match us, hl with | [_, _], _ => rfl, .nil⟩
  exact dfn_ok (fun_of FT) sc_words_back rfl (by decide) (fun cdv A outer s H E G hr => WC_words_back T ⟨trivial⟩ _ cdv A outer s H E G hr) (fun rs P _ _ h => sem_F (PX := fun _ => False) h) (fun _ _ _ h => h)
theorem k_passes_end_c : C8.Cal P w K mg base 1 "passes_end" (dSp K 3 (SC K F_passes_end)) [] := by
  obtain ⟨fd, FT⟩ := Z.f_passes_end
  refine ⟨_, fd, ["machine", "state", "word"], [], ?_, Z.g_passes_end, FT.kp, FT.bindsN (ps := ["machine", "state", "word"]) fun _ _ _ _ _ _ us hl => match us, hl with | [_, _, _], _ => rfl, .nil⟩
  exact dfn_ok (fun_of FT) sc_passes_end rfl (by decide) (fun cdv A outer s H E G hr => WC_passes_end T ⟨trivial⟩ _ cdv A outer s H E G hr) (fun rs P _ _ h => sem_F (PX := fun _ => False) h) (fun _ _ _ h => h)
theorem k_begin : C8.Cal P w K mg base 1 "_law_begin" (spBegin K) [] := by
  obtain ⟨fd, FT⟩ := Z.f__law_begin
  refine ⟨_, fd, ["script"], [], ?_, Z.g__law_begin, FT.kp, FT.bindsN (ps := ["script"]) fun _ _ _ _ _ _ us hl => match us, hl with | [_], _ => rfl, .nil⟩
  exact FT.ok sc_begin (fun vs H Q E h => by obtain ⟨a, ns, rfl, _⟩ := h; rfl) fun cdv A outer s H vs Q E hr h => ⟨t_begin K, PSs.nox (bd_begin T cdv A outer s H E), sem_begin h⟩
theorem k__law_take_c : C8.Cal P w K mg base 1 "_law_take" (dSp K 2 (SC K F_take)) [] := by
  obtain ⟨fd, FT⟩ := Z.f__law_take
  refine ⟨_, fd, ["d", "many"], [], ?_, Z.g__law_take, FT.kp, FT.bindsN (ps := ["d", "many"]) fun _ _ _ _ _ _ us hl => match us, hl with | [_, _], _ => rfl, .nil⟩
  exact FT.ok sc_take (fun vs H Q E h => dSp_len vs H Q E h) fun cdv A outer s H vs Q E hr h => ⟨t_take K, PSs.nox (bd_take T cdv A outer s H E), sem_take (take_dSp h)⟩
theorem k__law_longer_c : C8.Cal P w K mg base 1 "_law_longer" (dSp K 2 (SC K F__law_longer)) [] := by
  obtain ⟨fd, FT⟩ := Z.f__law_longer
  refine ⟨_, fd, ["alphabet", "level"], [], ?_, Z.g__law_longer, FT.kp, FT.bindsN (ps := ["alphabet", "level"]) fun _ _ _ _ _ _ us hl => match us, hl with | [_, _], _ => rfl, .nil⟩
  exact dfn_ok (fun_of FT) sc__law_longer rfl (by decide) (fun cdv A outer s H E G hr => WC__law_longer T ⟨trivial⟩ _ cdv A outer s H E G hr) (fun rs P _ _ h => sem_F (PX := fun _ => False) h) (fun _ _ _ h => h)
theorem k__law_state_c : C8.Cal P w K mg base 1 "_law_state" (dSp K 3 (SC K F__law_state)) [] := by
  obtain ⟨fd, FT⟩ := Z.f__law_state
  refine ⟨_, fd, ["machine", "state", "word"], [], ?_, Z.g__law_state, FT.kp, FT.bindsN (ps := ["machine", "state", "word"]) fun _ _ _ _ _ _ us hl => match us, hl with | [_, _, _], _ => rfl, .nil⟩
  exact dfn_ok (fun_of FT) sc__law_state rfl (by decide) (fun cdv A outer s H E G hr => WC__law_state T ⟨trivial⟩ _ cdv A outer s H E G hr) (fun rs P _ _ h => sem_F (PX := fun _ => False) h) (fun _ _ _ h => h)
theorem k__law_reach_c : C8.Cal P w K mg base 1 "_law_reach" (dSp K 1 (SC K F__law_reach)) [] := by
  obtain ⟨fd, FT⟩ := Z.f__law_reach
  refine ⟨_, fd, ["machine"], [], ?_, Z.g__law_reach, FT.kp, FT.bindsN (ps := ["machine"]) fun _ _ _ _ _ _ us hl => match us, hl with | [_], _ => rfl, .nil⟩
  exact dfn_ok (fun_of FT) sc__law_reach rfl (by decide) (fun cdv A outer s H E G hr => WC__law_reach T ⟨trivial⟩ _ cdv A outer s H E G hr) (fun rs P _ _ h => sem_F (PX := fun _ => False) h) (fun _ _ _ h => h)
theorem k__law_far_c : C8.Cal P w K mg base 1 "_law_far" (dSp K 1 (SC K F__law_far)) [] := by
  obtain ⟨fd, FT⟩ := Z.f__law_far
  refine ⟨_, fd, ["lasso"], [], ?_, Z.g__law_far, FT.kp, FT.bindsN (ps := ["lasso"]) fun _ _ _ _ _ _ us hl => match us, hl with | [_], _ => rfl, .nil⟩
  exact dfn_ok (fun_of FT) sc__law_far rfl (by decide) (fun cdv A outer s H E G hr => WC__law_far T ⟨trivial⟩ _ cdv A outer s H E G hr) (fun rs P _ _ h => sem_F (PX := fun _ => False) h) (fun _ _ _ h => h)
theorem k_root_x : CalX P w K mg base 2 "root" (dSp K 1 (SF K F_root)) := by
  obtain ⟨fd, FT⟩ := Z.f_root
  refine ⟨_, fd, ["word"], ?_, Z.g_root, FT.kp, FT.bindsN (ps := ["word"]) fun _ _ _ _ _ _ us hl => match us, hl with | [_], _ => rfl⟩
  exact dfn_okX (fun_of FT) sc_root rfl (by decide) (fun cdv A outer s H E G hr => WX_root T ⟨trivial⟩ _ cdv A outer s H E G hr) (fun rs P PX _ _ h => sem_F h)
theorem k_need_loop_x : CalX P w K mg base 2 "need_loop" (dSp K 1 (SF K F_need_loop)) := by
  obtain ⟨fd, FT⟩ := Z.f_need_loop
  refine ⟨_, fd, ["lasso"], ?_, Z.g_need_loop, FT.kp, FT.bindsN (ps := ["lasso"]) fun _ _ _ _ _ _ us hl => match us, hl with | [_], _ => rfl⟩
  exact dfn_okX (fun_of FT) sc_need_loop rfl (by decide) (fun cdv A outer s H E G hr => WX_need_loop T ⟨trivial⟩ _ cdv A outer s H E G hr) (fun rs P PX _ _ h => sem_F h)
theorem k__law_pick_c : C8.Cal P w K mg base 2 "_law_pick" (dSp K 2 (SC K F__law_pick)) [] := by
  obtain ⟨fd, FT⟩ := Z.f__law_pick
  refine ⟨_, fd, ["d", "menu"], [], ?_, Z.g__law_pick, FT.kp, FT.bindsN (ps := ["d", "menu"]) fun _ _ _ _ _ _ us hl => match us, hl with | [_, _], _ => rfl, .nil⟩
  exact dfn_ok (fun_of FT) sc__law_pick rfl (by decide) (fun cdv A outer s H E G hr => WC__law_pick T ⟨k__law_take_c T Z⟩ _ cdv A outer s H E G hr) (fun rs P _ _ h => sem_F (PX := fun _ => False) h) (fun _ _ _ h => h)
theorem k__law_all_c : C8.Cal P w K mg base 2 "_law_all" (dSp K 2 (SC K F__law_all)) [] := by
  obtain ⟨fd, FT⟩ := Z.f__law_all
  refine ⟨_, fd, ["alphabet", "length"], [], ?_, Z.g__law_all, FT.kp, FT.bindsN (ps := ["alphabet", "length"]) fun _ _ _ _ _ _ us hl => match us, hl with | [_, _], _ => rfl, .nil⟩
  exact dfn_ok (fun_of FT) sc__law_all rfl (by decide) (fun cdv A outer s H E G hr => WC__law_all T ⟨k__law_longer_c T Z⟩ _ cdv A outer s H E G hr) (fun rs P _ _ h => sem_F (PX := fun _ => False) h) (fun _ _ _ h => h)
theorem k__law_goes_c : C8.Cal P w K mg base 2 "_law_goes" (dSp K 2 (SC K F__law_goes)) [] := by
  obtain ⟨fd, FT⟩ := Z.f__law_goes
  refine ⟨_, fd, ["machine", "lasso"], [], ?_, Z.g__law_goes, FT.kp, FT.bindsN (ps := ["machine", "lasso"]) fun _ _ _ _ _ _ us hl => match us, hl with | [_, _], _ => rfl, .nil⟩
  exact dfn_ok (fun_of FT) sc__law_goes rfl (by decide) (fun cdv A outer s H E G hr => WC__law_goes T ⟨k__law_state_c T Z⟩ _ cdv A outer s H E G hr) (fun rs P _ _ h => sem_F (PX := fun _ => False) h) (fun _ _ _ h => h)
theorem k_least_lasso_x : CalX P w K mg base 3 "least_lasso" (dSp K 1 (SF K F_least_lasso)) := by
  obtain ⟨fd, FT⟩ := Z.f_least_lasso
  refine ⟨_, fd, ["lasso"], ?_, Z.g_least_lasso, FT.kp, FT.bindsN (ps := ["lasso"]) fun _ _ _ _ _ _ us hl => match us, hl with | [_], _ => rfl⟩
  exact dfn_okX (fun_of FT) sc_least_lasso rfl (by decide) (fun cdv A outer s H E G hr => WX_least_lasso T ⟨k_root_x T Z, k_need_loop_x T Z⟩ _ cdv A outer s H E G hr) (fun rs P PX _ _ h => sem_F h)
theorem k_sign_at_c : C8.Cal P w K mg base 3 "sign_at" (dSp K 2 (SC K F_sign_at)) [] := by
  obtain ⟨fd, FT⟩ := Z.f_sign_at
  refine ⟨_, fd, ["lasso", "place"], [], ?_, Z.g_sign_at, FT.kp, FT.bindsN (ps := ["lasso", "place"]) fun _ _ _ _ _ _ us hl => match us, hl with | [_, _], _ => rfl, .nil⟩
  exact dfn_okF (fun_of FT) sc_sign_at rfl (by decide) (fun cdv A outer s H E G hr => WC_sign_at T ⟨k_need_loop_x T Z⟩ _ cdv A outer s H E G hr) (fun rs P _ _ h => sem_F (PX := fun _ => False) h) (fun _ _ _ h => h)
theorem k_sign_at_x : CalX P w K mg base 3 "sign_at" (dSp K 2 (SF K F_sign_at)) := by
  obtain ⟨fd, FT⟩ := Z.f_sign_at
  refine ⟨_, fd, ["lasso", "place"], ?_, Z.g_sign_at, FT.kp, FT.bindsN (ps := ["lasso", "place"]) fun _ _ _ _ _ _ us hl => match us, hl with | [_, _], _ => rfl⟩
  exact dfn_okX (fun_of FT) sc_sign_at rfl (by decide) (fun cdv A outer s H E G hr => WX_sign_at T ⟨k_need_loop_x T Z⟩ _ cdv A outer s H E G hr) (fun rs P PX _ _ h => sem_F h)
theorem k_goes_on_x : CalX P w K mg base 3 "goes_on" (dSp K 2 (SF K F_goes_on)) := by
  obtain ⟨fd, FT⟩ := Z.f_goes_on
  refine ⟨_, fd, ["machine", "lasso"], ?_, Z.g_goes_on, FT.kp, FT.bindsN (ps := ["machine", "lasso"]) fun _ _ _ _ _ _ us hl => match us, hl with | [_, _], _ => rfl⟩
  exact dfn_okX (fun_of FT) sc_goes_on rfl (by decide) (fun cdv A outer s H E G hr => WX_goes_on T ⟨k_state_from_c T Z, k_need_loop_x T Z, k_passes_end_c T Z⟩ _ cdv A outer s H E G hr) (fun rs P PX _ _ h => sem_F h)
theorem k__law_machine_c : C8.Cal P w K mg base 3 "_law_machine" (dSp K 2 (SC K F__law_machine)) [] := by
  obtain ⟨fd, FT⟩ := Z.f__law_machine
  refine ⟨_, fd, ["d", "most"], [], ?_, Z.g__law_machine, FT.kp, FT.bindsN (ps := ["d", "most"]) fun _ _ _ _ _ _ us hl => match us, hl with | [_, _], _ => rfl, .nil⟩
  exact dfn_ok (fun_of FT) sc__law_machine rfl (by decide) (fun cdv A outer s H E G hr => WC__law_machine T ⟨k__law_take_c T Z, k__law_pick_c T Z⟩ _ cdv A outer s H E G hr) (fun rs P _ _ h => sem_F (PX := fun _ => False) h) (fun _ _ _ h => h)
theorem k_same_lasso_x : CalX P w K mg base 4 "same_lasso" (dSp K 2 (SF K F_same_lasso)) := by
  obtain ⟨fd, FT⟩ := Z.f_same_lasso
  refine ⟨_, fd, ["one", "other"], ?_, Z.g_same_lasso, FT.kp, FT.bindsN (ps := ["one", "other"]) fun _ _ _ _ _ _ us hl => match us, hl with | [_, _], _ => rfl⟩
  exact dfn_okX (fun_of FT) sc_same_lasso rfl (by decide) (fun cdv A outer s H E G hr => WX_same_lasso T ⟨k_least_lasso_x T Z⟩ _ cdv A outer s H E G hr) (fun rs P PX _ _ h => sem_F h)
theorem k_least_going_on_x : CalX P w K mg base 4 "least_going_on" (dSp K 1 (SF K F_least_going_on)) := by
  obtain ⟨fd, FT⟩ := Z.f_least_going_on
  refine ⟨_, fd, ["machine"], ?_, Z.g_least_going_on, FT.kp, FT.bindsN (ps := ["machine"]) fun _ _ _ _ _ _ us hl => match us, hl with | [_], _ => rfl⟩
  exact dfn_okX (fun_of FT) sc_least_going_on rfl (by decide) (fun cdv A outer s H E G hr => WX_least_going_on T ⟨k_least_words_c T Z, k_words_back_c T Z, k_least_lasso_x T Z⟩ _ cdv A outer s H E G hr) (fun rs P PX _ _ h => sem_F h)
theorem k__law_code_c : C8.Cal P w K mg base 4 "_law_code" (dSp K 2 (SC K F__law_code)) [] := by
  obtain ⟨fd, FT⟩ := Z.f__law_code
  refine ⟨_, fd, ["which", "machine"], [], ?_, Z.g__law_code, FT.kp, FT.bindsN (ps := ["which", "machine"]) fun _ _ _ _ _ _ us hl => match us, hl with | [_, _], _ => rfl, .nil⟩
  exact dfn_okF (fun_of FT) sc__law_code rfl (by decide) (fun cdv A outer s H E G hr => WC__law_code T ⟨k_least_lasso_x T Z, k_sign_at_x T Z, k_goes_on_x T Z⟩ _ cdv A outer s H E G hr) (fun rs P _ _ h => sem_F (PX := fun _ => False) h) (fun _ _ _ h => h)
theorem k_law {f : Addr} {fd : FuncData} (FT : FnP K "law" s_law f fd) : FnOk P w K mg base (L2.CX P w) 5 f fd ["script"] (spLaw K) := by
  refine FT.ok sc_law (fun vs H Q E h => by obtain ⟨a, ns, rfl, _⟩ := h; rfl) fun cdv A outer s H vs Q E hr h => ⟨_, pss_cons (ps_set (i := 1) sc_law.nd rfl (.inl rfl) (C8.pe_c (k_begin T Z) hr (by decide) (by rfl) (pa_cons (pv 0) pa_nil))) (law_tail fun G => WX_law T ⟨k_least_lasso_x T Z, k_same_lasso_x T Z, k_sign_at_c T Z, k_goes_on_x T Z, k_least_going_on_x T Z, k__law_pick_c T Z, k__law_all_c T Z, k__law_machine_c T Z, k__law_state_c T Z, k__law_reach_c T Z, k__law_code_c T Z, k__law_far_c T Z, k__law_goes_c T Z⟩ f cdv A outer s H E G hr), ?_⟩
  exact law_start (N := n_law) (n := 19) rfl (fun P PX p => law_sem (n := 19) law_true p) h
end
def fnl : List He.DefD := [⟨("state_from", none), "state_from", "state_from", defArgs s_state_from, defBody s_state_from, defScope s_state_from, [], []⟩, ⟨("least_words", none), "least_words", "least_words", defArgs s_least_words, defBody s_least_words, defScope s_least_words, [], []⟩, ⟨("root", none), "root", "root", defArgs s_root, defBody s_root, defScope s_root, [], []⟩, ⟨("words_back", none), "words_back", "words_back", defArgs s_words_back, defBody s_words_back, defScope s_words_back, [], []⟩, ⟨("need_loop", none), "need_loop", "need_loop", defArgs s_need_loop, defBody s_need_loop, defScope s_need_loop, [], []⟩, ⟨("least_lasso", none), "least_lasso", "least_lasso", defArgs s_least_lasso, defBody s_least_lasso, defScope s_least_lasso, [], []⟩, ⟨("same_lasso", none), "same_lasso", "same_lasso", defArgs s_same_lasso, defBody s_same_lasso, defScope s_same_lasso, [], []⟩, ⟨("sign_at", none), "sign_at", "sign_at", defArgs s_sign_at, defBody s_sign_at, defScope s_sign_at, [], []⟩, ⟨("passes_end", none), "passes_end", "passes_end", defArgs s_passes_end, defBody s_passes_end, defScope s_passes_end, [], []⟩, ⟨("goes_on", none), "goes_on", "goes_on", defArgs s_goes_on, defBody s_goes_on, defScope s_goes_on, [], []⟩, ⟨("least_going_on", none), "least_going_on", "least_going_on", defArgs s_least_going_on, defBody s_least_going_on, defScope s_least_going_on, [], []⟩, ⟨("_law_begin", none), "_law_begin", "_law_begin", defArgs s_begin, defBody s_begin, defScope s_begin, [], []⟩, ⟨("_law_take", none), "_law_take", "_law_take", defArgs s_take, defBody s_take, defScope s_take, [], []⟩, ⟨("_law_pick", none), "_law_pick", "_law_pick", defArgs s__law_pick, defBody s__law_pick, defScope s__law_pick, [], []⟩, ⟨("_law_all", none), "_law_all", "_law_all", defArgs s__law_all, defBody s__law_all, defScope s__law_all, [], []⟩, ⟨("_law_longer", none), "_law_longer", "_law_longer", defArgs s__law_longer, defBody s__law_longer, defScope s__law_longer, [], []⟩, ⟨("_law_machine", none), "_law_machine", "_law_machine", defArgs s__law_machine, defBody s__law_machine, defScope s__law_machine, [], []⟩, ⟨("_law_state", none), "_law_state", "_law_state", defArgs s__law_state, defBody s__law_state, defScope s__law_state, [], []⟩, ⟨("_law_reach", none), "_law_reach", "_law_reach", defArgs s__law_reach, defBody s__law_reach, defScope s__law_reach, [], []⟩, ⟨("_law_code", none), "_law_code", "_law_code", defArgs s__law_code, defBody s__law_code, defScope s__law_code, [], []⟩, ⟨("_law_far", none), "_law_far", "_law_far", defArgs s__law_far, defBody s__law_far, defScope s__law_far, [], []⟩, ⟨("_law_goes", none), "_law_goes", "_law_goes", defArgs s__law_goes, defBody s__law_goes, defScope s__law_goes, [], []⟩, ⟨("law", none), "law", "law", defArgs s_law, defBody s_law, defScope s_law, [], []⟩]
def fal : List He.Fa := [.glo "state_from", .glo "least_words", .glo "root", .glo "words_back", .glo "need_loop", .glo "least_lasso", .glo "same_lasso", .glo "sign_at", .glo "passes_end", .glo "goes_on", .glo "least_going_on", .glo "_law_begin", .glo "_law_take", .glo "_law_pick", .glo "_law_all", .glo "_law_longer", .glo "_law_machine", .glo "_law_state", .glo "_law_reach", .glo "_law_code", .glo "_law_far", .glo "_law_goes", .glo "law", .free "abs", .free "any", .free "enumerate", .free "int", .free "len", .free "list", .exm "InputError" "InputError" true, .free "range", .free "super", .glo "InputError", .free "tuple"]
def iel : List IeD := [ieOf (top 2) "InputError" "InputError.__init__"]
abbrev RR : PySem.W.OpenRow := PySem.W.OpenLaw.row PySem.Challenge.rw_grammarhall_k40_whole_lassos
abbrev fil : Str := (PySem.Challenge.rw_grammarhall_k40_whole_lassos).prog.main.file
abbrev hk : PySem.W.Hook := hookE fil 5 fal fnl iel
def ob (s : PySem.W.SharedT) : AlE := obsEG fil 5 fal fnl iel (HandSHeadRun.getT s)
theorem ob_eq (s : PySem.W.SharedT) : ob s = hk.obs s.abs := obsEG_eq (HandSHeadRun.getT_eq s)
def lse : List PySem.Str := ["GrammarError", "InputError", "state_from", "least_words", "root", "words_back", "need_loop", "least_lasso", "same_lasso", "sign_at", "passes_end", "goes_on", "least_going_on", "_law_begin", "_law_take", "_law_pick", "_law_all", "_law_longer", "_law_machine", "_law_state", "_law_reach", "_law_code", "_law_far", "_law_goes"]
set_option maxHeartbeats 0 in
theorem run (w : World) : HandSHeadRun.RunEq RR (PySem.W.view RR.prog [31]) hk ob 4000 lse w := by
  intro os
  kernel_rfl
theorem facts {w : World} {K : PySem.W.Frag} {h : Heap} {mg : Str → Option Value} {f : Addr} (X : K.In h) (G : h.Ns mainGlobals mg) (hfa : mg ("law" : Str) = some (.ref f)) (c : SaysE fil fal fnl iel K) :
    ∃ fd : FuncData, (∀ (s : Shared) (v : Value), BindsTo s fd ⟨[v], []⟩ [("script", v)]) ∧ ∀ base : Heap, K.In base → base.Ns mainGlobals mg → FnOk (PySem.Challenge.rw_grammarhall_k40_whole_lassos).prog w K mg base (L2.CX (PySem.Challenge.rw_grammarhall_k40_whole_lassos).prog w) 5 f fd ["script"] (spLaw K) := by
  have cd := c.d
  have ie_InputError := ie_txt (prog := (PySem.Challenge.rw_grammarhall_k40_whole_lassos).prog) (mg := mg) (c.ie 0 (d := ieOf (top 2) "InputError" "InputError.__init__") rfl) rfl rfl rfl (by rfl) (He.glo_ok X G (cd.fact 32 (f := .glo "InputError") rfl)) (He.free_ok X G (cd.fact 31 (f := .free "super") rfl)) (by decide +kernel)
  have T : TT0 (PySem.Challenge.rw_grammarhall_k40_whole_lassos).prog K mg := ⟨He.free_ok X G (cd.fact 23 (f := .free "abs") rfl), He.free_ok X G (cd.fact 24 (f := .free "any") rfl), He.free_ok X G (cd.fact 25 (f := .free "enumerate") rfl), He.free_ok X G (cd.fact 26 (f := .free "int") rfl), He.free_ok X G (cd.fact 27 (f := .free "len") rfl), He.free_ok X G (cd.fact 28 (f := .free "list") rfl), He.exm_ok (cd.fact 29 (f := .exm "InputError" "InputError" true) rfl), He.free_ok X G (cd.fact 30 (f := .free "range") rfl), ie_InputError, He.free_ok X G (cd.fact 33 (f := .free "tuple") rfl)⟩
  have Z : Fs K mg := ⟨cd.def_ 0 rfl, He.glo_ok X G (cd.fact 0 (f := .glo "state_from") rfl), cd.def_ 1 rfl, He.glo_ok X G (cd.fact 1 (f := .glo "least_words") rfl), cd.def_ 2 rfl, He.glo_ok X G (cd.fact 2 (f := .glo "root") rfl), cd.def_ 3 rfl, He.glo_ok X G (cd.fact 3 (f := .glo "words_back") rfl), cd.def_ 4 rfl, He.glo_ok X G (cd.fact 4 (f := .glo "need_loop") rfl), cd.def_ 5 rfl, He.glo_ok X G (cd.fact 5 (f := .glo "least_lasso") rfl), cd.def_ 6 rfl, He.glo_ok X G (cd.fact 6 (f := .glo "same_lasso") rfl), cd.def_ 7 rfl, He.glo_ok X G (cd.fact 7 (f := .glo "sign_at") rfl), cd.def_ 8 rfl, He.glo_ok X G (cd.fact 8 (f := .glo "passes_end") rfl), cd.def_ 9 rfl, He.glo_ok X G (cd.fact 9 (f := .glo "goes_on") rfl), cd.def_ 10 rfl, He.glo_ok X G (cd.fact 10 (f := .glo "least_going_on") rfl), cd.def_ 11 rfl, He.glo_ok X G (cd.fact 11 (f := .glo "_law_begin") rfl), cd.def_ 12 rfl, He.glo_ok X G (cd.fact 12 (f := .glo "_law_take") rfl), cd.def_ 13 rfl, He.glo_ok X G (cd.fact 13 (f := .glo "_law_pick") rfl), cd.def_ 14 rfl, He.glo_ok X G (cd.fact 14 (f := .glo "_law_all") rfl), cd.def_ 15 rfl, He.glo_ok X G (cd.fact 15 (f := .glo "_law_longer") rfl), cd.def_ 16 rfl, He.glo_ok X G (cd.fact 16 (f := .glo "_law_machine") rfl), cd.def_ 17 rfl, He.glo_ok X G (cd.fact 17 (f := .glo "_law_state") rfl), cd.def_ 18 rfl, He.glo_ok X G (cd.fact 18 (f := .glo "_law_reach") rfl), cd.def_ 19 rfl, He.glo_ok X G (cd.fact 19 (f := .glo "_law_code") rfl), cd.def_ 20 rfl, He.glo_ok X G (cd.fact 20 (f := .glo "_law_far") rfl), cd.def_ 21 rfl, He.glo_ok X G (cd.fact 21 (f := .glo "_law_goes") rfl), cd.def_ 22 rfl, He.glo_ok X G (cd.fact 22 (f := .glo "law") rfl)⟩
  obtain ⟨fd, F⟩ := Z.f_law
  have e := hfa.symm.trans Z.g_law
  cases e
  have b := FunD.bindsA (ps := ["script"]) F fun _ _ _ _ _ _ us hl => match us, hl with | [_], _ => rfl
  exact ⟨fd, fun s v => b s [v] rfl, fun base _ _ => k_law T Z F⟩
end K40
open PySem PySem.W PySem.Calls PyProof.Rows
theorem PySem.Challenge.cw_grammarhall_k40_whole_lassos_holds : PySem.Challenge.rw_grammarhall_k40_whole_lassos.Holds := by
  w_on; o_law
  refine HandSHeadRun.head_any (r := OpenLaw.row PySem.Challenge.rw_grammarhall_k40_whole_lassos) (q := view (OpenLaw.row PySem.Challenge.rw_grammarhall_k40_whole_lassos).prog [31]) (H := K40.hk) (ob := K40.ob) (M := 4000) (loose := K40.lse) (d := HandSHeadRun.topDef (OpenLaw.row PySem.Challenge.rw_grammarhall_k40_whole_lassos).prog 31) (kwd := []) K40.ob_eq
    (by kernel_rfl) (fun s => by kernel_rfl) K40.run (by kernel_rfl) (by kernel_rfl) (by kernel_rfl) (by rfl) (by first | assumption | decide +kernel) (by decide +kernel) ⟨rfl, rfl, rfl, rfl, rfl, by decide +kernel⟩ ?hw ?hc
  case hw => w_witness2
  case hc =>
    refine DW.walk_bits (l := PySem.Challenge.rw_grammarhall_k40_whole_lassos) (n := 63) (k := 5) (x := "script") (CX := fun w => L2.CX (PySem.Challenge.rw_grammarhall_k40_whole_lassos).prog w) rfl (by decide) (by kernel_rfl) ⟨rfl, by decide, by decide⟩ ?F (fun w H s e s' z => by obtain ⟨_, _, _, _, _, _, _, _, _, _, _, _, z⟩ := z; exact z)
    intro w mg fa h Y G hmg0
    obtain ⟨K, KX, c⟩ := Y
    have e : (HandSHeadRun.topDef (OpenLaw.row PySem.Challenge.rw_grammarhall_k40_whole_lassos).prog 31).name = ("law" : PySem.Str) := by kernel_rfl
    have hmg : mg ("law" : PySem.Str) = some (.ref fa) := by rw [← e]; exact hmg0
    obtain ⟨fd, hb, hF⟩ := K40.facts (w := w) KX G hmg c
    exact ⟨K, fd, DW.spLaw K, KX, hb, fun H a ns hl hz hS => ⟨a, ns, rfl, hS, hl, hz, fun _ => rfl⟩, hF⟩
