import PyProof.Rows.All
import Wide.All
import OpenK.AllK
import Wide.FinOn
import HandS.ForMost
import HandS.Walk
import HandS.Deep
import HandS.Conv
import HandS.TupAny
import HandS.TupMul
import HandS.Exc
import HandS.TryOnly
import HandS.ExcOwn
import HandS.WordsExc
import HandS.TryMany
import HandS.Flow
import HandS.Replace
import KE.KDictDisplayH
import HandS.DictComp
import HandS.TupLen
import HandS.WordsDict
import PyProof.StrOps2
import HandS.Small
import HandS.Codes
import HandS.WideBits
import HandS.Strs
import HandS.SetBool
import HandS.Head0
import HandS.Head1
import HandS.Head2
import HandS.HeadEnd
import HandS.HeadHook1
import HandS.HeadHook2
import HandS.EndBits
import PyProof.P3Eq
import PySem.Challenge.RW_grammarhall_k35_whole_actions
set_option Elab.async false
set_option linter.all false
set_option maxRecDepth 100000
set_option maxHeartbeats 4000000
/-! DW: a layer of plain data over HandS. A value is a datum (PyData); tuples and frozen lists are data; a local that holds a list or a dict of its own holds it by value. -/
namespace DW
open PySem PySem.Spec L2

abbrev D := PyData
def Sub (F H : Hp) : Prop := ∀ a o, F a = some o → H a = some o
theorem Sub.refl {F : Hp} : Sub F F := fun _ _ e => e
theorem Sub.trans {F G H : Hp} (a : Sub F G) (b : Sub G H) : Sub F H := fun x o e => b x o (a x o e)
theorem Sub.none {F H : Hp} (s : Sub F H) {a : Addr} (n : H a = none) : F a = none := by
  cases e : F a with
  | none => rfl
  | some o => have q := s a o e; rw [n] at q; cases q
theorem Sub.sqL {K : PySem.W.Frag} {F H : Hp} {a : Addr} {xs : List V} (s : Sub F H) (h : SqL K F a xs) : SqL K H a xs := by
  rcases h with (h | ⟨o, h⟩) | h
  · exact .inl (.inl (s _ _ h))
  · exact .inl (.inr ⟨o, s _ _ h⟩)
  · exact .inr h
theorem Sub.sqT {K : PySem.W.Frag} {F H : Hp} {a : Addr} {xs : List V} (s : Sub F H) (h : SqT K F a xs) : SqT K H a xs := by
  rcases h with (h | ⟨o, h⟩) | h
  · exact .inl (.inl (s _ _ h))
  · exact .inl (.inr ⟨o, s _ _ h⟩)
  · exact .inr h

mutual
/-- a datum stands at v: its tuples and lists are in F (the script as it is locked) -/
inductive RepD (K : PySem.W.Frag) (F : Hp) : V → D → Prop where
  | non : RepD K F .non .none
  | bl (b : Bool) : RepD K F (.bl b) (.bool b)
  | int (i : Int) : RepD K F (.int i) (.int i)
  | str (x : Str) : RepD K F (.str x) (.str x)
  | tup {a : Addr} {vs : List V} {ds : List D} : F a = some (.tup vs) → RepL K F vs ds → RepD K F (.ref a) (.tuple ds)
  | lst {a : Addr} {vs : List V} {ds : List D} : F a = some (.lst vs) → RepL K F vs ds → RepD K F (.ref a) (.list ds)
inductive RepL (K : PySem.W.Frag) (F : Hp) : List V → List D → Prop where
  | nil : RepL K F [] []
  | cons {v : V} {d : D} {vs : List V} {ds : List D} : RepD K F v d → RepL K F vs ds → RepL K F (v :: vs) (d :: ds)
end
theorem Sub.rd {F H : Hp} {a : Addr} {u : HO} (s : Sub F H) (h : Rd F a u) : Rd H a u := h.elim (fun h => .inl (s _ _ h)) fun ⟨o, h⟩ => .inr ⟨o, s _ _ h⟩
mutual
theorem RepD.mono {K : PySem.W.Frag} {F F' : Hp} (k : Sub F F') : ∀ {v : V} {d : D}, RepD K F v d → RepD K F' v d
  | _, _, .non => .non
  | _, _, .bl b => .bl b
  | _, _, .int i => .int i
  | _, _, .str x => .str x
  | _, _, .tup e r => .tup (k _ _ e) (RepL.mono k r)
  | _, _, .lst e r => .lst (k _ _ e) (RepL.mono k r)
theorem RepL.mono {K : PySem.W.Frag} {F F' : Hp} (k : Sub F F') : ∀ {vs : List V} {ds : List D}, RepL K F vs ds → RepL K F' vs ds
  | _, _, .nil => .nil
  | _, _, .cons r t => .cons (RepD.mono k r) (RepL.mono k t)
end
mutual
theorem RepD.dp {K : PySem.W.Frag} {F : Hp} : ∀ {v : V} {d : D}, RepD K F v d → Dp K F v d
  | _, _, .non => .non
  | _, _, .bl b => .bl b
  | _, _, .int i => .int i
  | _, _, .str x => .str x
  | _, _, .tup e r => .tup (.inl (.inl e)) (RepL.dp r)
  | _, _, .lst e r => .lst (.inl (.inl e)) (RepL.dp r)
theorem RepL.dp {K : PySem.W.Frag} {F : Hp} : ∀ {vs : List V} {ds : List D}, RepL K F vs ds → DpAll K F vs ds
  | _, _, .nil => .nil
  | _, _, .cons r t => .cons (RepD.dp r) (RepL.dp t)
end

theorem RepL.length {K : PySem.W.Frag} {F : Hp} : ∀ {vs : List V} {ds : List D}, RepL K F vs ds → vs.length = ds.length
  | _, _, .nil => rfl
  | _, _, .cons _ t => by rw [List.length_cons, List.length_cons, RepL.length t]
theorem RepL.append {K : PySem.W.Frag} {F : Hp} : ∀ {vs us : List V} {ds es : List D}, RepL K F vs ds → RepL K F us es → RepL K F (vs ++ us) (ds ++ es)
  | _, _, _, _, .nil, s => s
  | _, _, _, _, .cons r t, s => .cons r (RepL.append t s)
theorem RepL.get {K : PySem.W.Frag} {F : Hp} : ∀ {vs : List V} {ds : List D} {i : Nat} {d : D}, RepL K F vs ds → ds[i]? = some d → ∃ v, vs[i]? = some v ∧ RepD K F v d
  | _, _, _, _, .nil, e => by simp at e
  | _, _, 0, _, .cons r _, e => by simp at e; subst e; exact ⟨_, rfl, r⟩
  | _, _, i + 1, _, .cons _ t, e => by
    obtain ⟨u, h1, h2⟩ := RepL.get (i := i) t (by simpa using e)
    exact ⟨u, by simpa using h1, h2⟩
theorem RepL.get' {K : PySem.W.Frag} {F : Hp} : ∀ {vs : List V} {ds : List D} {i : Nat} {v : V}, RepL K F vs ds → vs[i]? = some v → ∃ d, ds[i]? = some d ∧ RepD K F v d
  | _, _, _, _, .nil, e => by simp at e
  | _, _, 0, _, .cons r _, e => by simp at e; subst e; exact ⟨_, rfl, r⟩
  | _, _, i + 1, _, .cons _ t, e => by
    obtain ⟨u, h1, h2⟩ := RepL.get' (i := i) t (by simpa using e)
    exact ⟨u, by simpa using h1, h2⟩
theorem RepL.take {K : PySem.W.Frag} {F : Hp} : ∀ {vs : List V} {ds : List D} (n : Nat), RepL K F vs ds → RepL K F (vs.take n) (ds.take n)
  | _, _, 0, _ => .nil
  | _, _, _ + 1, .nil => .nil
  | _, _, n + 1, .cons r t => .cons r (RepL.take n t)
theorem RepL.drop {K : PySem.W.Frag} {F : Hp} : ∀ {vs : List V} {ds : List D} (n : Nat), RepL K F vs ds → RepL K F (vs.drop n) (ds.drop n)
  | _, _, 0, r => r
  | _, _, _ + 1, .nil => .nil
  | _, _, n + 1, .cons _ t => RepL.drop n t
theorem RepL.set {K : PySem.W.Frag} {F : Hp} {v : V} {d : D} (r : RepD K F v d) : ∀ {vs : List V} {ds : List D} (i : Nat), RepL K F vs ds → RepL K F (vs.set i v) (ds.set i d)
  | _, _, _, .nil => .nil
  | _, _, 0, .cons _ t => .cons r t
  | _, _, i + 1, .cons q t => .cons q (RepL.set r i t)
theorem RepL.dropLast {K : PySem.W.Frag} {F : Hp} {vs : List V} {ds : List D} (r : RepL K F vs ds) : RepL K F vs.dropLast ds.dropLast := by
  rw [List.dropLast_eq_take, List.dropLast_eq_take, RepL.length r]
  exact RepL.take _ r
theorem RepL.eraseIdx {K : PySem.W.Frag} {F : Hp} : ∀ {vs : List V} {ds : List D} (i : Nat), RepL K F vs ds → RepL K F (vs.eraseIdx i) (ds.eraseIdx i)
  | _, _, _, .nil => .nil
  | _, _, 0, .cons _ t => t
  | _, _, i + 1, .cons q t => .cons q (RepL.eraseIdx i t)
theorem RepL.ints {K : PySem.W.Frag} {F : Hp} : ∀ (ns : List Int), RepL K F (ns.map V.int) (ns.map PyData.int)
  | [] => .nil
  | n :: r => .cons (.int n) (RepL.ints r)

/-- the law's drawer: where it stands, where its copy of the script stands, the script -/
structure Dw where
  a : Addr
  s : Addr
  ns : List Int
def Big (n : Int) : Prop := n.natAbs < 2 ^ 1048576
def Drawer (H : Hp) (d : Dw) : Prop :=
  ∃ (i : Nat) (r c : Int), H d.a = some (.lst [.ref d.s, .int i, .int r, .int c]) ∧ 0 ≤ r ∧ Big r ∧ 0 ≤ c ∧ c < 2147483647
structure DwOk (F H : Hp) (d : Dw) : Prop where
  free : F d.a = none
  at_ : Drawer H d
  copy : F d.s = some (.lst (d.ns.map V.int))
  few : d.ns.length ≤ 63
  big : ∀ n ∈ d.ns, Big n

/-- from (F, H) on: what stood stands (the drawer may turn), new things are new -/
structure Ext (w : Option Dw) (F H F' H' : Hp) : Prop where
  fs : Sub F F'
  le : Sub F' H'
  hs : ∀ a o, H a = some o → (∀ d, w = some d → d.a ≠ a) → H' a = some o
  new : ∀ a, F' a ≠ none → F a ≠ none ∨ H a = none
  dr : ∀ d, w = some d → DwOk F' H' d
section
variable {w : Option Dw} {F F1 F2 H H1 H2 : Hp}
theorem Ext.refl (le : Sub F H) (dr : ∀ d, w = some d → DwOk F H d) : Ext w F H F H := ⟨Sub.refl, le, fun _ _ e _ => e, fun _ e => .inl e, dr⟩
theorem Ext.stay (x : Ext w F H F1 H1) : Ext w F1 H1 F1 H1 := Ext.refl x.le x.dr
theorem Ext.there (x : Ext w F H F1 H1) {a : Addr} {o : HO} (e : H a = some o) : ∃ u, H1 a = some u := by
  by_cases q : ∃ d, w = some d ∧ d.a = a
  · obtain ⟨d, e1, e2⟩ := q
    obtain ⟨i, r, c, h, _⟩ := (x.dr d e1).at_
    rw [e2] at h
    exact ⟨_, h⟩
  · exact ⟨o, x.hs a o e fun d e1 e2 => q ⟨d, e1, e2⟩⟩
theorem Ext.none (x : Ext w F H F1 H1) {a : Addr} (e : H1 a = none) : H a = none := by
  cases q : H a with
  | none => rfl
  | some u => obtain ⟨w, h⟩ := x.there q; rw [e] at h; cases h
theorem Ext.trans (x : Ext w F H F1 H1) (y : Ext w F1 H1 F2 H2) : Ext w F H F2 H2 where
  fs := x.fs.trans y.fs
  le := y.le
  hs := fun a o e d => y.hs a o (x.hs a o e d) d
  new := fun a e => by
    rcases y.new a e with q | q
    · exact x.new a q
    · exact .inr (x.none q)
  dr := y.dr
/-- w's drawer is not at a -/
theorem Ext.off (x : Ext w F H F1 H1) {a : Addr} (e : F1 a ≠ Option.none) : ∀ d, w = some d → d.a ≠ a := fun d e1 e2 => by
  have := (x.dr d e1).free
  rw [e2] at this
  exact e this
theorem upd_grow {p : Addr} {u : HO} (hp : H p = Option.none) : Sub H (upd H p u) := fun b u' e => by
  rw [upd_ne (fun z => by subst z; rw [hp] at e; cases e)]; exact e
theorem Drawer.grow {d : Dw} (x : Drawer H d) (g : Sub H H1) : Drawer H1 d := let ⟨i, r, c, e, q⟩ := x; ⟨i, r, c, g _ _ e, q⟩
/-- a new frozen thing -/
theorem Ext.laid (x : Ext w F H F H) {p : Addr} {u : HO} (hp : H p = Option.none) : Ext w F H (upd F p u) (upd H p u) where
  fs := upd_grow (x.le.none hp)
  le := fun a o e => by
    by_cases ha : a = p
    · subst ha; rw [upd_same] at e ⊢; exact e
    · rw [upd_ne ha] at e ⊢; exact x.le a o e
  hs := fun a o e _ => upd_grow hp a o e
  new := fun a e => by
    by_cases ha : a = p
    · subst ha; exact .inr hp
    · rw [upd_ne ha] at e; exact .inl e
  dr := fun d e => by
    have o := x.dr d e
    obtain ⟨i, r, c, h, q⟩ := o.at_
    have hn : d.a ≠ p := fun z => by rw [z, hp] at h; cases h
    exact ⟨by rw [upd_ne hn]; exact o.free, o.at_.grow (upd_grow hp), upd_grow (x.le.none hp) _ _ o.copy, o.few, o.big⟩
/-- a new thing of one's own: not frozen -/
theorem Ext.own (x : Ext w F H F H) {p : Addr} {u : HO} (hp : H p = Option.none) : Ext w F H F (upd H p u) where
  fs := Sub.refl
  le := x.le.trans (upd_grow hp)
  hs := fun a o e _ => upd_grow hp a o e
  new := fun a e => .inl e
  dr := fun d e => let o := x.dr d e; ⟨o.free, o.at_.grow (upd_grow hp), o.copy, o.few, o.big⟩
/-- a thing of one's own, new since (F, H), is frozen -/
theorem Ext.freeze (x : Ext w F H F1 H1) {p : Addr} {u : HO} (h0 : H p = Option.none) (h : H1 p = some u) (n : F1 p = Option.none) (nd : ∀ d, w = some d → d.a ≠ p) : Ext w F H (upd F1 p u) H1 where
  fs := x.fs.trans (upd_grow n)
  le := fun a o e => by
    by_cases ha : a = p
    · subst ha; rw [upd_same] at e; rw [← e]; exact h
    · rw [upd_ne ha] at e; exact x.le a o e
  hs := x.hs
  new := fun a e => by
    by_cases ha : a = p
    · subst ha; exact .inr h0
    · rw [upd_ne ha] at e; exact x.new a e
  dr := fun d e => by
    have o := x.dr d e
    exact ⟨by rw [upd_ne (nd d e)]; exact o.free, o.at_, upd_grow n _ _ o.copy, o.few, o.big⟩
end

/-! ### results, slots -/
/-- what an expression gives: a datum; a new list (dict); a list (dict) of a local; the drawer -/
inductive R where
  | im (d : D) | ol (xs : List D) | bl (xs : List D) | oK (kvs : List (Key × D)) | bK (kvs : List (Key × D)) | oT (kvs : List (List Key × D)) | bT (kvs : List (List Key × D)) | drw
inductive SV where
  | im (d : D) | ol (xs : List D) | oK (kvs : List (Key × D)) | oT (kvs : List (List Key × D)) | drw

inductive RepKV {κ : Type} (K : PySem.W.Frag) (F : Hp) : List (κ × V) → List (κ × D) → Prop where
  | nil : RepKV K F [] []
  | cons {k : κ} {v : V} {d : D} {vs : List (κ × V)} {ds : List (κ × D)} : RepD K F v d → RepKV K F vs ds → RepKV K F ((k, v) :: vs) ((k, d) :: ds)
theorem RepKV.mono {κ : Type} {K : PySem.W.Frag} {F F' : Hp} (k : Sub F F') : ∀ {vs : List (κ × V)} {ds : List (κ × D)}, RepKV K F vs ds → RepKV K F' vs ds
  | _, _, .nil => .nil
  | _, _, .cons r t => .cons (RepD.mono k r) (RepKV.mono k t)

def SV.owned : SV → Bool
  | .ol _ => true
  | .oK _ => true
  | .oT _ => true
  | _ => false
def SV.read : SV → R
  | .im d => .im d
  | .ol xs => .bl xs
  | .oK xs => .bK xs
  | .oT xs => .bT xs
  | .drw => .drw

def RepSV (K : PySem.W.Frag) (w : Option Dw) (F H : Hp) (v : V) : SV → Prop
  | .im d => RepD K F v d
  | .ol xs => ∃ p vs, v = .ref p ∧ H p = some (.lst vs) ∧ F p = none ∧ (∀ d, w = some d → d.a ≠ p) ∧ RepL K F vs xs
  | .oK kvs => ∃ p vs, v = .ref p ∧ H p = some (.dK vs) ∧ F p = none ∧ (∀ d, w = some d → d.a ≠ p) ∧ RepKV K F vs kvs
  | .oT kvs => ∃ p vs, v = .ref p ∧ H p = some (.dT vs) ∧ F p = none ∧ (∀ d, w = some d → d.a ≠ p) ∧ RepKV K F vs kvs
  | .drw => ∃ d, w = some d ∧ v = .ref d.a

abbrev DEnv := List (Option SV)
/-- the ground: the drawer, what stood at the def's entry -/
structure Gd where
  w : Option Dw
  F0 : Hp
  H0 : Hp

structure RepS (K : PySem.W.Frag) (G : Gd) (F H : Hp) (σ : L2.St) (δ : DEnv) : Prop where
  ext : Ext G.w G.F0 G.H0 F H
  len : σ.length = δ.length
  slot : ∀ (i : Nat) s, δ[i]? = some (some s) → ∃ v, σ[i]? = some (some v) ∧ RepSV K G.w F H v s
  fresh : ∀ (i : Nat) s p, δ[i]? = some (some s) → s.owned = true → σ[i]? = some (some (.ref p)) → G.H0 p = none
  apart : ∀ (i j : Nat) s t p, i ≠ j → δ[i]? = some (some s) → δ[j]? = some (some t) → s.owned = true → t.owned = true → σ[i]? = some (some (.ref p)) → σ[j]? ≠ some (some (.ref p))

def RepR (K : PySem.W.Frag) (w : Option Dw) (H F' H' : Hp) (v : V) : R → Prop
  | .im d => RepD K F' v d
  | .ol xs => ∃ p vs, v = .ref p ∧ H p = none ∧ H' p = some (.lst vs) ∧ F' p = none ∧ (∀ d, w = some d → d.a ≠ p) ∧ RepL K F' vs xs
  | .bl xs => ∃ p vs, v = .ref p ∧ H' p = some (.lst vs) ∧ F' p = none ∧ (∀ d, w = some d → d.a ≠ p) ∧ RepL K F' vs xs
  | .oK kvs => ∃ p vs, v = .ref p ∧ H p = none ∧ H' p = some (.dK vs) ∧ F' p = none ∧ (∀ d, w = some d → d.a ≠ p) ∧ RepKV K F' vs kvs
  | .bK kvs => ∃ p vs, v = .ref p ∧ H' p = some (.dK vs) ∧ F' p = none ∧ (∀ d, w = some d → d.a ≠ p) ∧ RepKV K F' vs kvs
  | .oT kvs => ∃ p vs, v = .ref p ∧ H p = none ∧ H' p = some (.dT vs) ∧ F' p = none ∧ (∀ d, w = some d → d.a ≠ p) ∧ RepKV K F' vs kvs
  | .bT kvs => ∃ p vs, v = .ref p ∧ H' p = some (.dT vs) ∧ F' p = none ∧ (∀ d, w = some d → d.a ≠ p) ∧ RepKV K F' vs kvs
  | .drw => ∃ d, w = some d ∧ v = .ref d.a

section
variable {K : PySem.W.Frag} {w : Option Dw} {G : Gd} {F F1 F2 H H1 H2 : Hp} {σ : L2.St} {δ : DEnv}
theorem Ext.keepN (x : Ext w F H F1 H1) {p : Addr} {u : HO} (e : H p = some u) (n : F p = Option.none) (nd : ∀ d, w = some d → d.a ≠ p) : H1 p = some u ∧ F1 p = Option.none := by
  refine ⟨x.hs p u e nd, ?_⟩
  cases q : F1 p with
  | none => rfl
  | some w =>
    rcases x.new p (by rw [q]; intro z; cases z) with r | r
    · exact absurd n r
    · rw [r] at e; cases e
theorem RepSV.ext (x : Ext w F H F1 H1) {v : V} {s : SV} (r : RepSV K w F H v s) : RepSV K w F1 H1 v s := by
  cases s with
  | im d => exact RepD.mono x.fs r
  | ol xs => obtain ⟨p, vs, e, h, n, nd, l⟩ := r; obtain ⟨h', n'⟩ := x.keepN h n nd; exact ⟨p, vs, e, h', n', nd, RepL.mono x.fs l⟩
  | oK xs => obtain ⟨p, vs, e, h, n, nd, l⟩ := r; obtain ⟨h', n'⟩ := x.keepN h n nd; exact ⟨p, vs, e, h', n', nd, l.mono x.fs⟩
  | oT xs => obtain ⟨p, vs, e, h, n, nd, l⟩ := r; obtain ⟨h', n'⟩ := x.keepN h n nd; exact ⟨p, vs, e, h', n', nd, l.mono x.fs⟩
  | drw => exact r
theorem RepS.to (s : RepS K G F H σ δ) (x : Ext G.w F H F1 H1) : RepS K G F1 H1 σ δ :=
  ⟨s.ext.trans x, s.len, fun i t e => let ⟨v, e1, r⟩ := s.slot i t e; ⟨v, e1, r.ext x⟩, s.fresh, s.apart⟩
theorem RepR.to {v : V} {r : R} (q : RepR K w H F1 H1 v r) (x : Ext w F1 H1 F2 H2) : RepR K w H F2 H2 v r := by
  cases r with
  | im d => exact RepD.mono x.fs q
  | ol xs => obtain ⟨p, vs, e, h0, h, n, nd, l⟩ := q; obtain ⟨h', n'⟩ := x.keepN h n nd; exact ⟨p, vs, e, h0, h', n', nd, RepL.mono x.fs l⟩
  | bl xs => obtain ⟨p, vs, e, h, n, nd, l⟩ := q; obtain ⟨h', n'⟩ := x.keepN h n nd; exact ⟨p, vs, e, h', n', nd, RepL.mono x.fs l⟩
  | oK xs => obtain ⟨p, vs, e, h0, h, n, nd, l⟩ := q; obtain ⟨h', n'⟩ := x.keepN h n nd; exact ⟨p, vs, e, h0, h', n', nd, l.mono x.fs⟩
  | bK xs => obtain ⟨p, vs, e, h, n, nd, l⟩ := q; obtain ⟨h', n'⟩ := x.keepN h n nd; exact ⟨p, vs, e, h', n', nd, l.mono x.fs⟩
  | oT xs => obtain ⟨p, vs, e, h0, h, n, nd, l⟩ := q; obtain ⟨h', n'⟩ := x.keepN h n nd; exact ⟨p, vs, e, h0, h', n', nd, l.mono x.fs⟩
  | bT xs => obtain ⟨p, vs, e, h, n, nd, l⟩ := q; obtain ⟨h', n'⟩ := x.keepN h n nd; exact ⟨p, vs, e, h', n', nd, l.mono x.fs⟩
  | drw => exact q
theorem RepR.back {v : V} {r : R} (q : RepR K w H1 F2 H2 v r) (x : Ext w F H F1 H1) : RepR K w H F2 H2 v r := by
  cases r with
  | im d => exact q
  | ol xs => obtain ⟨p, vs, e, h0, h⟩ := q; exact ⟨p, vs, e, x.none h0, h⟩
  | bl xs => exact q
  | oK xs => obtain ⟨p, vs, e, h0, h⟩ := q; exact ⟨p, vs, e, x.none h0, h⟩
  | bK xs => exact q
  | oT xs => obtain ⟨p, vs, e, h0, h⟩ := q; exact ⟨p, vs, e, x.none h0, h⟩
  | bT xs => exact q
  | drw => exact q
end

/-! ### data of results -/
/-- the datum, a new list being frozen -/
def R.dat : R → Option D
  | .im d => some d
  | .ol xs => some (.list xs)
  | _ => none
/-- the items of a list that is read -/
def R.lst : R → Option (List D)
  | .im (.list xs) => some xs
  | .ol xs => some xs
  | .bl xs => some xs
  | _ => none
def R.tup : R → Option (List D)
  | .im (.tuple xs) => some xs
  | _ => none
section
variable {K : PySem.W.Frag} {w : Option Dw} {F F1 F2 H H1 H2 : Hp} {v : V} {r : R}
theorem RepR.freeze (x : Ext w F H F1 H1) (q : RepR K w H F1 H1 v r) {d : D} (e : r.dat = some d) : ∃ F2, Ext w F H F2 H1 ∧ Sub F1 F2 ∧ RepD K F2 v d := by
  cases r with
  | im d' =>
    have z : d' = d := Option.some.inj e
    subst z
    exact ⟨F1, x, Sub.refl, q⟩
  | ol xs =>
    have z : PyData.list xs = d := Option.some.inj e
    subst z
    obtain ⟨p, vs, rfl, h0, h, n, nd, l⟩ := q
    exact ⟨_, x.freeze h0 h n nd, upd_grow n, .lst upd_same (RepL.mono (upd_grow n) l)⟩
  | bl xs => cases e
  | oK xs => cases e
  | bK xs => cases e
  | oT xs => cases e
  | bT xs => cases e
  | drw => cases e
/-- the datum as it stands, a list of a local too -/
def R.datA : R → Option D
  | .im d => some d
  | .ol xs => some (.list xs)
  | .bl xs => some (.list xs)
  | _ => none
theorem RepR.dp (le : Sub F1 H1) (q : RepR K w H F1 H1 v r) {d : D} (e : r.datA = some d) : Dp K H1 v d := by
  cases r with
  | im d' =>
    have z : d' = d := Option.some.inj e
    subst z
    exact (RepD.mono le q).dp
  | ol xs =>
    have z : PyData.list xs = d := Option.some.inj e
    subst z
    obtain ⟨p, vs, rfl, h0, h, n, nd, l⟩ := q
    exact .lst (SqL.of h) (RepL.mono le l).dp
  | bl xs =>
    have z : PyData.list xs = d := Option.some.inj e
    subst z
    obtain ⟨p, vs, rfl, h, n, nd, l⟩ := q
    exact .lst (SqL.of h) (RepL.mono le l).dp
  | oK xs => cases e
  | bK xs => cases e
  | oT xs => cases e
  | bT xs => cases e
  | drw => cases e
theorem RepR.list (le : Sub F1 H1) (q : RepR K w H F1 H1 v r) {xs : List D} (e : r.lst = some xs) : ∃ p vs, v = .ref p ∧ SqL K H1 p vs ∧ RepL K F1 vs xs := by
  cases r with
  | im d' =>
    cases d' with
    | list ys =>
      have z : ys = xs := Option.some.inj e
      subst z
      cases q with
      | lst h l => exact ⟨_, _, rfl, .inl (.inl (le _ _ h)), l⟩
    | _ => cases e
  | ol ys =>
    have z : ys = xs := Option.some.inj e
    subst z
    obtain ⟨p, vs, rfl, h0, h, n, nd, l⟩ := q
    exact ⟨p, vs, rfl, SqL.of h, l⟩
  | bl ys =>
    have z : ys = xs := Option.some.inj e
    subst z
    obtain ⟨p, vs, rfl, h, n, nd, l⟩ := q
    exact ⟨p, vs, rfl, SqL.of h, l⟩
  | oK xs => cases e
  | bK xs => cases e
  | oT xs => cases e
  | bT xs => cases e
  | drw => cases e
theorem RepR.tuple (le : Sub F1 H1) (q : RepR K w H F1 H1 v r) {xs : List D} (e : r.tup = some xs) : ∃ p vs, v = .ref p ∧ F1 p = some (.tup vs) ∧ RepL K F1 vs xs := by
  cases r with
  | im d' =>
    cases d' with
    | tuple ys =>
      have z : ys = xs := Option.some.inj e
      subst z
      cases q with
      | tup h l => exact ⟨_, _, rfl, h, l⟩
    | _ => cases e
  | _ => cases e
end
end DW
set_option Elab.async false
set_option linter.all false
set_option maxRecDepth 100000
set_option maxHeartbeats 4000000
namespace DW
open PySem PySem.Spec L2

/-! ### judgements on expressions -/
/-- an exception: its class, its fields -/
structure DX where
  C : Addr
  fs : List (Str × D)
def RepX (K : PySem.W.Frag) (F' H' : Hp) (x : DX) (cls : Value) (d : Option Addr) : Prop :=
  cls = .ref x.C ∧ (x.fs ≠ [] → ∃ dd vs, d = some dd ∧ H' dd = some (.xd vs) ∧ Paired (fun (p : Str × V) (q : Str × D) => p.1 = q.1 ∧ RepD K F' p.2 q.2) vs x.fs)
/-- an expression's data reading -/
abbrev WE' := DEnv → (R → Prop) → (DX → Prop) → Prop
abbrev WT := DEnv → (Bool → Prop) → (DX → Prop) → Prop
abbrev WA := DEnv → (List R → Prop) → (DX → Prop) → Prop

def xok (K : PySem.W.Frag) (w : Option Dw) (W : WX) (F H : Hp) (σ : L2.St) (PX : DX → Prop) : Prop :=
  ∀ x F' H' cls d, Ext w F H F' H' → RepX K F' H' x cls d → PX x → W cls d σ H'
def dT (K : PySem.W.Frag) (G : Gd) (W : WX) (we : WE') : TE := fun σ H Q => ∃ F δ P PX, RepS K G F H σ δ ∧ we δ P PX ∧
  (∀ v F' H' r, Ext G.w F H F' H' → RepR K G.w H F' H' v r → P r → Q v H') ∧ xok K G.w W F H σ PX
def dTT (K : PySem.W.Frag) (G : Gd) (W : WX) (wt : WT) : TT := fun σ H Q => ∃ F δ P PX, RepS K G F H σ δ ∧ wt δ P PX ∧
  (∀ b F' H', Ext G.w F H F' H' → P b → Q b H') ∧ xok K G.w W F H σ PX
/-- an argument list: each result is as it was when it was made, new lists are not frozen -/
inductive RepRs (K : PySem.W.Frag) (w : Option Dw) (H F' H' : Hp) : List V → List R → Prop where
  | nil : RepRs K w H F' H' [] []
  | cons {v r vs rs} : RepR K w H F' H' v r → RepRs K w H F' H' vs rs → RepRs K w H F' H' (v :: vs) (r :: rs)
def dTA (K : PySem.W.Frag) (G : Gd) (W : WX) (wa : WA) : TA := fun σ H Q => ∃ F δ P PX, RepS K G F H σ δ ∧ wa δ P PX ∧
  (∀ vs F' H' rs, Ext G.w F H F' H' → RepRs K G.w H F' H' vs rs → P rs → Q vs H') ∧ xok K G.w W F H σ PX

abbrev DE (X : Cx) (G : Gd) (W : WX) (e : Expr) (we : WE') : Prop := PE X e (dT X.K G W we)
abbrev DT (X : Cx) (G : Gd) (W : WX) (e : Expr) (wt : WT) : Prop := PT X e (dTT X.K G W wt)
abbrev DA (X : Cx) (G : Gd) (W : WX) (es : List Expr) (wa : WA) : Prop := PA X es (dTA X.K G W wa)

theorem PE.imp {X : Cx} {e : Expr} {t t' : TE} (h : PE X e t) (i : ∀ σ H Q, t' σ H Q → t σ H Q) : PE X e t' := ⟨fun pins s σ H Q I q => h.run pins s σ H Q I (i σ H Q q)⟩
theorem PT.imp {X : Cx} {e : Expr} {t t' : TT} (h : PT X e t) (i : ∀ σ H Q, t' σ H Q → t σ H Q) : PT X e t' := ⟨fun pins s σ H Q I q => h.run pins s σ H Q I (i σ H Q q)⟩
theorem PA.imp {X : Cx} {e : List Expr} {t t' : TA} (h : PA X e t) (i : ∀ σ H Q, t' σ H Q → t σ H Q) : PA X e t' := ⟨fun pos pins s σ H Q I q => h.run pos pins s σ H Q I (i σ H Q q)⟩

section
variable {K : PySem.W.Frag} {w : Option Dw} {G : Gd} {W : WX} {F F1 F2 H H1 H2 : Hp} {σ : L2.St} {δ : DEnv}
theorem xok.to {PX : DX → Prop} (x : xok K w W F H σ PX) (y : Ext w F H F1 H1) : xok K w W F1 H1 σ PX := fun e F' H' cls d z r p => x e F' H' cls d (y.trans z) r p
theorem RepRs.to {vs rs} (q : RepRs K w H F1 H1 vs rs) (x : Ext w F1 H1 F2 H2) : RepRs K w H F2 H2 vs rs := by
  induction q with
  | nil => exact .nil
  | cons r _ ih => exact .cons (r.to x) ih
theorem RepRs.back {vs rs} (q : RepRs K w H1 F2 H2 vs rs) (x : Ext w F H F1 H1) : RepRs K w H F2 H2 vs rs := by
  induction q with
  | nil => exact .nil
  | cons r _ ih => exact .cons (r.back x) ih
/-- the next expression's reading from where the first one ended -/
theorem dT.next {we : WE'} {P : R → Prop} {PX : DX → Prop} {Q : VK} (S : RepS K G F H σ δ) (x : Ext G.w F H F1 H1) (xk : xok K G.w W F H σ PX) (h : we δ P PX)
    (k : ∀ v F' H' r, Ext G.w F1 H1 F' H' → RepR K G.w H1 F' H' v r → P r → Q v H') : dT K G W we σ H1 Q :=
  ⟨F1, δ, P, PX, S.to x, h, k, xk.to x⟩
theorem dTA.next {we : WA} {P : List R → Prop} {PX : DX → Prop} {Q : List V → Hp → Prop} (S : RepS K G F H σ δ) (x : Ext G.w F H F1 H1) (xk : xok K G.w W F H σ PX) (h : we δ P PX)
    (k : ∀ v F' H' r, Ext G.w F1 H1 F' H' → RepRs K G.w H1 F' H' v r → P r → Q v H') : dTA K G W we σ H1 Q :=
  ⟨F1, δ, P, PX, S.to x, h, k, xk.to x⟩
end

/-! ### names, constants -/
def wV (i : Nat) : WE' := fun δ P _ => ∃ s, δ[i]? = some (some s) ∧ P s.read
def wC (d : D) : WE' := fun _ P _ => P (.im d)
section
variable {X : Cx} {G : Gd} {W : WX} {e a b : Expr} {wa wb : WE'} {pos : Pos}
theorem RepSV.read {K : PySem.W.Frag} {w : Option Dw} {F H : Hp} {v : V} {s : SV} (r : RepSV K w F H v s) : RepR K w H F H v s.read := by
  cases s with
  | im d => exact r
  | ol xs => obtain ⟨p, vs, e, q⟩ := r; exact ⟨p, vs, e, q⟩
  | oK xs => obtain ⟨p, vs, e, q⟩ := r; exact ⟨p, vs, e, q⟩
  | oT xs => obtain ⟨p, vs, e, q⟩ := r; exact ⟨p, vs, e, q⟩
  | drw => exact r
theorem de_var {i : Nat} (h : PE X e (tVar i)) : DE X G W e (wV i) := PE.imp h fun σ H Q ⟨F, δ, P, PX, S, ⟨s, e1, p⟩, k, xk⟩ => by
  obtain ⟨v, e2, r⟩ := S.slot i s e1
  exact ⟨v, e2, k v F H _ S.ext.stay r.read p⟩
theorem de_con {v : V} {d : D} (h : PE X e (tC v)) (r : ∀ F, RepD X.K F v d) : DE X G W e (wC d) := PE.imp h fun σ H Q ⟨F, δ, P, PX, S, p, k, xk⟩ => k v F H (.im d) S.ext.stay (r F) p
theorem de_int {i j} : DE X G W (.Constant (.int i) j pos) (wC (.int i)) := de_con pe_int fun _ => .int i
theorem de_bl {b j} : DE X G W (.Constant (.bool b) j pos) (wC (.bool b)) := de_con pe_bl fun _ => .bl b
theorem de_non {j} : DE X G W (.Constant .none j pos) (wC .none) := de_con pe_non fun _ => .non
theorem de_str {x j} : DE X G W (.Constant (.str x) j pos) (wC (.str x)) := de_con pe_str fun _ => .str x

/-! ### operators -/
/-- an operation on results -/
abbrev KO := R → R → (R → Prop) → Prop
def wOp (k : KO) (wa wb : WE') : WE' := fun δ P PX => wa δ (fun r1 => wb δ (fun r2 => k r1 r2 P) PX) PX
/-- r is good enough for k -/
def OpD (K : PySem.W.Frag) (r : R2) (k : KO) : Prop := ∀ (w : Option Dw) (H0 F H : Hp) (x y : V) (r1 r2 : R) (P : R → Prop) (Q : VK), Ext w F H F H → RepR K w H0 F H x r1 → RepR K w H0 F H y r2 → k r1 r2 P →
  (∀ v F' H' r, Ext w F H F' H' → RepR K w H F' H' v r → P r → Q v H') → r x y H Q
theorem tOp_of {K : PySem.W.Frag} {r : R2} {k : KO} (hk : OpD K r k) {σ : L2.St} {H : Hp} {Q : VK} (h : dT K G W (wOp k wa wb) σ H Q) : tOp r (dT K G W wa) (dT K G W wb) σ H Q := by
  obtain ⟨F, δ, P, PX, S, p, q, xk⟩ := h
  refine ⟨F, δ, _, PX, S, p, fun x F1 H1 r1 x1 q1 p1 => ?_, xk⟩
  refine dT.next S x1 xk p1 fun y F2 H2 r2 x2 q2 p2 => ?_
  refine hk G.w H F2 H2 x y r1 r2 P Q x2.stay (q1.to x2) (q2.back x1) p2 fun v F' H' r x3 q3 p3 => q v F' H' r ((x1.trans x2).trans x3) (q3.back (x1.trans x2)) p3
theorem de_op {op : Operator} {r : R2} {k : KO} (ho : OpR X (binaryOp op) r) (hk : OpD X.K r k) (ha : DE X G W a wa) (hb : DE X G W b wb) : DE X G W (.BinOp a op b pos) (wOp k wa wb) :=
  PE.imp (pe_op ho ha hb) fun _ _ _ h => tOp_of hk h
theorem de_cmp {op : CmpOp} {r : R2} {k : KO} (ho : OpR X (compareOp op) r) (hk : OpD X.K r k) (ha : DE X G W a wa) (hb : DE X G W b wb) (hm : behindInMarks op b = false) : DE X G W (.Compare a [op] [b] pos) (wOp k wa wb) :=
  PE.imp (pe_cmpR ho ha hb hm) fun _ _ _ h => tOp_of hk h
/-- a test of a bool result -/
def wB (we : WE') : WT := fun δ P PX => we δ (fun r => ∃ b, r = .im (.bool b) ∧ P b) PX
theorem tB_of {K : PySem.W.Frag} {we : WE'} {σ : L2.St} {H : Hp} {Q : Bool → Hp → Prop} (h : dTT K G W (wB we) σ H Q) : dT K G W we σ H fun x H1 => ∃ c, x = .bl c ∧ Q c H1 := by
  obtain ⟨F, δ, P, PX, S, p, q, xk⟩ := h
  refine ⟨F, δ, _, PX, S, p, fun x F1 H1 r1 x1 q1 ⟨b, e, pb⟩ => ?_, xk⟩
  subst e
  cases q1
  exact ⟨b, rfl, q b F1 H1 x1 pb⟩
theorem dt_cmp {op : CmpOp} {r : R2} {k : KO} (ho : OpR X (compareOp op) r) (hk : OpD X.K r k) (ha : DE X G W a wa) (hb : DE X G W b wb) (hm : behindInMarks op b = false) : DT X G W (.Compare a [op] [b] pos) (wB (wOp k wa wb)) :=
  PT.imp (pt_cmpR ho ha hb hm) fun σ H Q h => by
    obtain ⟨F, δ, P, PX, S, p, q, xk⟩ := tB_of h
    exact tOp_of hk ⟨F, δ, P, PX, S, p, q, xk⟩
theorem dt_val {we : WE'} (h : DE X G W e we) (he : ∀ whole, isTrue e X.env whole = (do let v ← whole; standAt e.pos; holding [v] (truthy v)) := by intro _; rfl) : DT X G W e (wB we) :=
  PT.imp (pt_val h he) fun σ H Q h => tB_of h

/-! ### the operations -/
def kI (f : Int → Int → D) : KO := fun r1 r2 P => ∃ i j, r1 = .im (.int i) ∧ r2 = .im (.int j) ∧ P (.im (f i j))
theorem opd_I {K : PySem.W.Frag} {g : Int → Int → V} {f : Int → Int → D} (h : ∀ F i j, RepD K F (g i j) (f i j)) : OpD K (rI0 g) (kI f) := by
  intro w H0 F H x y r1 r2 P Q x0 q1 q2 ⟨i, j, e1, e2, p⟩ k
  subst e1; subst e2
  cases q1; cases q2
  exact ⟨i, j, rfl, rfl, k _ F H (.im (f i j)) x0 (h F i j) p⟩
def kIC (C : Int → Int → Prop) (f : Int → Int → D) : KO := fun r1 r2 P => ∃ i j, r1 = .im (.int i) ∧ r2 = .im (.int j) ∧ C i j ∧ P (.im (f i j))
theorem opd_IC {K : PySem.W.Frag} {C : Int → Int → Prop} {g : Int → Int → V} {f : Int → Int → D} (h : ∀ F i j, RepD K F (g i j) (f i j)) : OpD K (rI C g) (kIC C f) := by
  intro w H0 F H x y r1 r2 P Q x0 q1 q2 ⟨i, j, e1, e2, c, p⟩ k
  subst e1; subst e2
  cases q1; cases q2
  exact ⟨i, j, rfl, rfl, c, k _ F H (.im (f i j)) x0 (h F i j) p⟩
theorem OpD.or {K : PySem.W.Frag} {r r' : R2} {k k' : KO} (h : OpD K r k) (h' : OpD K r' k') : OpD K (fun x y H Q => r x y H Q ∨ r' x y H Q) (fun a b P => k a b P ∨ k' a b P) := by
  intro w H0 F H x y r1 r2 P Q x0 q1 q2 hk c
  rcases hk with hk | hk
  · exact .inl (h w H0 F H x y r1 r2 P Q x0 q1 q2 hk c)
  · exact .inr (h' w H0 F H x y r1 r2 P Q x0 q1 q2 hk c)
theorem OpD.imp {K : PySem.W.Frag} {r : R2} {k k' : KO} (h : OpD K r k) (i : ∀ a b P, k' a b P → k a b P) : OpD K r k' := fun w H0 F H x y r1 r2 P Q x0 q1 q2 hk c => h w H0 F H x y r1 r2 P Q x0 q1 q2 (i _ _ _ hk) c

def kLt : KO := kI fun i j => .bool (decide (i < j))
def kLe : KO := kI fun i j => .bool (decide (i ≤ j))
def kGt : KO := kI fun i j => .bool (decide (j < i))
def kGe : KO := kI fun i j => .bool (decide (j ≤ i))
def kSub : KO := kI fun i j => .int (i - j)
theorem opd_lt {K : PySem.W.Frag} : OpD K (rI0 fun i j => .bl (decide (i < j))) kLt := opd_I fun _ _ _ => .bl _
theorem opd_le {K : PySem.W.Frag} : OpD K (rI0 fun i j => .bl (decide (i ≤ j))) kLe := opd_I fun _ _ _ => .bl _
theorem opd_gt {K : PySem.W.Frag} : OpD K (rI0 fun i j => .bl (decide (j < i))) kGt := opd_I fun _ _ _ => .bl _
theorem opd_ge {K : PySem.W.Frag} : OpD K (rI0 fun i j => .bl (decide (j ≤ i))) kGe := opd_I fun _ _ _ => .bl _
theorem opd_sub {K : PySem.W.Frag} : OpD K (rI0 fun i j => .int (i - j)) kSub := opd_I fun _ _ _ => .int _
theorem opd_addI {K : PySem.W.Frag} : OpD K (rI0 fun i j => .int (i + j)) (kI fun i j => .int (i + j)) := opd_I fun _ _ _ => .int _
/-- two texts -/
def kCatS : KO := fun r1 r2 P => ∃ i j, r1 = .im (.str i) ∧ r2 = .im (.str j) ∧ i.length + j.length ≤ sizeLine ∧ P (.im (.str (i ++ j)))
theorem opd_addS {K : PySem.W.Frag} : OpD K (fun x y H Q => ∃ i j, x = .str i ∧ y = .str j ∧ i.length + j.length ≤ sizeLine ∧ Q (.str (i ++ j)) H) kCatS := by
  intro w H0 F H x y r1 r2 P Q x0 q1 q2 ⟨i, j, e1, e2, c, p⟩ k
  subst e1; subst e2
  cases q1; cases q2
  exact ⟨i, j, rfl, rfl, c, k _ F H (.im _) x0 (.str _) p⟩
end
end DW
set_option Elab.async false
set_option linter.all false
set_option maxRecDepth 100000
set_option maxHeartbeats 4000000
namespace DW
open PySem PySem.Spec L2

def R.own : R → Option (List D)
  | .im (.list xs) => some xs
  | .ol xs => some xs
  | .bl xs => some xs
  | _ => none
section
variable {K : PySem.W.Frag} {w : Option Dw} {F F1 F2 H H1 H2 : Hp} {v : V} {r : R}
theorem RepR.owns (le : Sub F1 H1) (q : RepR K w H F1 H1 v r) {xs : List D} (e : r.own = some xs) : ∃ p vs, v = .ref p ∧ H1 p = some (.lst vs) ∧ RepL K F1 vs xs := by
  cases r with
  | ol ys =>
    have z : ys = xs := Option.some.inj e
    subst z
    obtain ⟨p, vs, rfl, h0, h, n, nd, l⟩ := q
    exact ⟨p, vs, rfl, h, l⟩
  | bl ys =>
    have z : ys = xs := Option.some.inj e
    subst z
    obtain ⟨p, vs, rfl, h, n, nd, l⟩ := q
    exact ⟨p, vs, rfl, h, l⟩
  | im d' =>
    cases d' with
    | list ys =>
      have z : ys = xs := Option.some.inj e
      subst z
      cases q with
      | lst h l => exact ⟨_, _, rfl, le _ _ h, l⟩
    | _ => cases e
  | _ => cases e
/-- a new list -/
theorem new_list (x0 : Ext w F H F H) {p : Addr} (hp : H p = none) {vs : List V} {xs : List D} (l : RepL K F vs xs) : Ext w F H F (upd H p (.lst vs)) ∧ RepR K w H F (upd H p (.lst vs)) (.ref p) (.ol xs) := by
  refine ⟨x0.own hp, p, vs, rfl, hp, upd_same, x0.le.none hp, fun d e z => ?_, l⟩
  obtain ⟨i, r, c, h, _⟩ := (x0.dr d e).at_
  rw [z, hp] at h; cases h
theorem new_tup (x0 : Ext w F H F H) {p : Addr} (hp : H p = none) {vs : List V} {xs : List D} (l : RepL K F vs xs) : Ext w F H (upd F p (.tup vs)) (upd H p (.tup vs)) ∧ RepR K w H (upd F p (.tup vs)) (upd H p (.tup vs)) (.ref p) (.im (.tuple xs)) :=
  ⟨x0.laid hp, .tup upd_same (RepL.mono (upd_grow (x0.le.none hp)) l)⟩

/-! ### + -/
def kAdd : KO := fun r1 r2 P => match r1, r2 with
  | .im (.int i), .im (.int j) => P (.im (.int (i + j)))
  | .im (.str a), .im (.str b) => a.length + b.length ≤ sizeLine ∧ P (.im (.str (a ++ b)))
  | .im (.tuple xs), .im (.tuple ys) => xs.length + ys.length ≤ sizeLine ∧ P (.im (.tuple (xs ++ ys)))
  | r1, r2 => ∃ xs ys, r1.own = some xs ∧ r2.own = some ys ∧ xs.length + ys.length ≤ sizeLine ∧ P (.ol (xs ++ ys))
def kCatL : KO := fun r1 r2 P => ∃ xs ys, r1.own = some xs ∧ r2.own = some ys ∧ xs.length + ys.length ≤ sizeLine ∧ P (.ol (xs ++ ys))
theorem opd_catL : OpD K rCat kCatL := by
  intro w H0 F H x y r1 r2 P Q x0 q1 q2 ⟨xs, ys, e1, e2, hl, p⟩ k
  obtain ⟨a, vs, rfl, ha, la⟩ := q1.owns x0.le e1
  obtain ⟨b, us, rfl, hb, lb⟩ := q2.owns x0.le e2
  refine ⟨a, b, vs, us, rfl, rfl, ha, hb, by rw [RepL.length la, RepL.length lb]; exact hl, fun q hq => ?_⟩
  obtain ⟨x1, r⟩ := new_list (K := K) x0 hq (RepL.append la lb)
  exact k _ _ _ _ x1 r p
def kCatT : KO := fun r1 r2 P => ∃ xs ys, r1 = .im (.tuple xs) ∧ r2 = .im (.tuple ys) ∧ xs.length + ys.length ≤ sizeLine ∧ P (.im (.tuple (xs ++ ys)))
theorem opd_catT : OpD K (rCatA K) kCatT := by
  intro w H0 F H x y r1 r2 P Q x0 q1 q2 ⟨xs, ys, e1, e2, hl, p⟩ k
  subst e1; subst e2
  obtain ⟨a, vs, rfl, ha, la⟩ := RepR.tuple (K := K) (w := w) (H := H0) x0.le q1 (xs := xs) rfl
  obtain ⟨b, us, rfl, hb, lb⟩ := RepR.tuple (K := K) (w := w) (H := H0) x0.le q2 (xs := ys) rfl
  have ha' : SqT K H a vs := .inl (.inl (x0.le _ _ ha))
  have hb' : SqT K H b us := .inl (.inl (x0.le _ _ hb))
  refine ⟨a, b, vs, us, rfl, rfl, ha', hb', by rw [RepL.length la, RepL.length lb]; exact hl, fun e => ?_, fun _ e => ?_, fun _ _ t hp => ?_⟩
  · subst e
    cases la
    exact k _ F H (.im (.tuple ys)) x0 q2 p
  · subst e
    cases lb
    rw [List.append_nil] at p
    exact k _ F H (.im (.tuple xs)) x0 q1 p
  · obtain ⟨x1, r⟩ := new_tup (K := K) x0 hp (RepL.append la lb)
    exact k _ _ _ _ x1 r p
theorem kAdd_or : ∀ a b P, kAdd a b P → ((kI fun i j => .int (i + j)) a b P ∨ kCatS a b P) ∨ kCatL a b P ∨ kCatT a b P := by
  intro a b P h
  unfold kAdd at h
  split at h
  · exact .inl (.inl ⟨_, _, rfl, rfl, h⟩)
  · exact .inl (.inr ⟨_, _, rfl, rfl, h⟩)
  · exact .inr (.inr ⟨_, _, rfl, rfl, h⟩)
  · exact .inr (.inl h)
section
variable {X : Cx} {G : Gd} {W : WX} {e a b c : Expr} {wa wb wc : WE'} {pos : Pos}
theorem de_add (ha : DE X G W a wa) (hb : DE X G W b wb) : DE X G W (.BinOp a .Add b pos) (wOp kAdd wa wb) :=
  de_op ((op_add.or op_add_str).or (op_cat.or op_catA)) (((opd_addI.or opd_addS).or (opd_catL.or opd_catT)).imp kAdd_or) ha hb
theorem de_sub (ha : DE X G W a wa) (hb : DE X G W b wb) : DE X G W (.BinOp a .Sub b pos) (wOp kSub wa wb) := de_op op_sub opd_sub ha hb
def kMod : KO := kIC (fun _ j => 0 < j) fun i j => .int (i % j)
theorem de_mod (ha : DE X G W a wa) (hb : DE X G W b wb) : DE X G W (.BinOp a .Mod b pos) (wOp kMod wa wb) := de_op op_mod (opd_IC fun _ _ _ => .int _) ha hb
def kMul : KO := kIC CMul fun i j => .int (i * j)
theorem de_mul (ha : DE X G W a wa) (hb : DE X G W b wb) : DE X G W (.BinOp a .Mult b pos) (wOp kMul wa wb) := de_op op_mul (opd_IC fun _ _ _ => .int _) ha hb

/-! ### comparisons -/
theorem nb {op : CmpOp} (b : Expr) (h : op ≠ .In) (h2 : op ≠ .NotIn) : behindInMarks op b = false := nobehind b h h2
theorem de_lt (ha : DE X G W a wa) (hb : DE X G W b wb) : DE X G W (.Compare a [.Lt] [b] pos) (wOp kLt wa wb) := de_cmp op_lt opd_lt ha hb (nb _ (by decide) (by decide))
theorem de_le (ha : DE X G W a wa) (hb : DE X G W b wb) : DE X G W (.Compare a [.LtE] [b] pos) (wOp kLe wa wb) := de_cmp op_le opd_le ha hb (nb _ (by decide) (by decide))
theorem de_gt (ha : DE X G W a wa) (hb : DE X G W b wb) : DE X G W (.Compare a [.Gt] [b] pos) (wOp kGt wa wb) := de_cmp op_gt opd_gt ha hb (nb _ (by decide) (by decide))
theorem de_ge (ha : DE X G W a wa) (hb : DE X G W b wb) : DE X G W (.Compare a [.GtE] [b] pos) (wOp kGe wa wb) := de_cmp op_ge opd_ge ha hb (nb _ (by decide) (by decide))
theorem dt_lt (ha : DE X G W a wa) (hb : DE X G W b wb) : DT X G W (.Compare a [.Lt] [b] pos) (wB (wOp kLt wa wb)) := dt_cmp op_lt opd_lt ha hb (nb _ (by decide) (by decide))
theorem dt_le (ha : DE X G W a wa) (hb : DE X G W b wb) : DT X G W (.Compare a [.LtE] [b] pos) (wB (wOp kLe wa wb)) := dt_cmp op_le opd_le ha hb (nb _ (by decide) (by decide))
theorem dt_gt (ha : DE X G W a wa) (hb : DE X G W b wb) : DT X G W (.Compare a [.Gt] [b] pos) (wB (wOp kGt wa wb)) := dt_cmp op_gt opd_gt ha hb (nb _ (by decide) (by decide))
theorem dt_ge (ha : DE X G W a wa) (hb : DE X G W b wb) : DT X G W (.Compare a [.GtE] [b] pos) (wB (wOp kGe wa wb)) := dt_cmp op_ge opd_ge ha hb (nb _ (by decide) (by decide))
/-- data that can be compared: no dicts, no ints beside bools at the places -/
def kEq : KO := fun r1 r2 P => ∃ d e, r1.datA = some d ∧ r2.datA = some e ∧ SeqAt.shaped d = true ∧ SeqAt.shaped e = true ∧ P (.im (.bool (PyData.eqv d e)))
def kNe : KO := fun r1 r2 P => ∃ d e, r1.datA = some d ∧ r2.datA = some e ∧ SeqAt.shaped d = true ∧ SeqAt.shaped e = true ∧ P (.im (.bool (!PyData.eqv d e)))
theorem opd_eq : OpD K (rEqD K) kEq := by
  intro w H0 F H x y r1 r2 P Q x0 q1 q2 ⟨d, e, e1, e2, s1, s2, p⟩ k
  exact ⟨d, e, q1.dp x0.le e1, q2.dp x0.le e2, s1, s2, k _ F H (.im _) x0 (.bl _) p⟩
theorem opd_ne : OpD K (rNeD K) kNe := by
  intro w H0 F H x y r1 r2 P Q x0 q1 q2 ⟨d, e, e1, e2, s1, s2, p⟩ k
  exact ⟨d, e, q1.dp x0.le e1, q2.dp x0.le e2, s1, s2, k _ F H (.im _) x0 (.bl _) p⟩
theorem de_eq (hu : X.A.units + 64 < cLine) (ha : DE X G W a wa) (hb : DE X G W b wb) : DE X G W (.Compare a [.Eq] [b] pos) (wOp kEq wa wb) := de_cmp (op_eqD hu) opd_eq ha hb (nb _ (by decide) (by decide))
theorem de_ne (hu : X.A.units + 64 < cLine) (ha : DE X G W a wa) (hb : DE X G W b wb) : DE X G W (.Compare a [.NotEq] [b] pos) (wOp kNe wa wb) := de_cmp (op_neD hu) opd_ne ha hb (nb _ (by decide) (by decide))
theorem dt_eq (hu : X.A.units + 64 < cLine) (ha : DE X G W a wa) (hb : DE X G W b wb) : DT X G W (.Compare a [.Eq] [b] pos) (wB (wOp kEq wa wb)) := dt_cmp (op_eqD hu) opd_eq ha hb (nb _ (by decide) (by decide))
theorem dt_ne (hu : X.A.units + 64 < cLine) (ha : DE X G W a wa) (hb : DE X G W b wb) : DT X G W (.Compare a [.NotEq] [b] pos) (wB (wOp kNe wa wb)) := dt_cmp (op_neD hu) opd_ne ha hb (nb _ (by decide) (by decide))
/-- None -/
def kIsN : KO := fun r1 r2 P => ∃ d, r1 = .im d ∧ r2 = .im .none ∧ P (.im (.bool (match d with | .none => true | _ => false)))
def kNotN : KO := fun r1 r2 P => ∃ d, r1 = .im d ∧ r2 = .im .none ∧ P (.im (.bool (match d with | .none => false | _ => true)))
theorem opd_isN : OpD K (fun x y H Q => y = .non ∧ Q (.bl (decide (x = .non))) H) kIsN := by
  intro w H0 F H x y r1 r2 P Q x0 q1 q2 ⟨d, e1, e2, p⟩ k
  subst e1; subst e2
  cases q2
  refine ⟨rfl, k _ F H (.im _) x0 ?_ p⟩
  cases q1 <;> exact .bl _
theorem opd_notN : OpD K (fun x y H Q => y = .non ∧ Q (.bl (!decide (x = .non))) H) kNotN := by
  intro w H0 F H x y r1 r2 P Q x0 q1 q2 ⟨d, e1, e2, p⟩ k
  subst e1; subst e2
  cases q2
  refine ⟨rfl, k _ F H (.im _) x0 ?_ p⟩
  cases q1 <;> exact .bl _
theorem de_isN (ha : DE X G W a wa) (hb : DE X G W b wb) : DE X G W (.Compare a [.Is] [b] pos) (wOp kIsN wa wb) := de_cmp op_isN opd_isN ha hb (nb _ (by decide) (by decide))
theorem de_notN (ha : DE X G W a wa) (hb : DE X G W b wb) : DE X G W (.Compare a [.IsNot] [b] pos) (wOp kNotN wa wb) := de_cmp op_notN opd_notN ha hb (nb _ (by decide) (by decide))

/-! ### in: a list of data; a tuple, a list of flat things; one sign in a text -/
def flatD : D → Bool
  | .none => true
  | .bool _ => true
  | .int _ => true
  | .str _ => true
  | _ => false
def R.seq : R → Option (List D)
  | .im (.list xs) => some xs
  | .im (.tuple xs) => some xs
  | .ol xs => some xs
  | .bl xs => some xs
  | _ => none
def inD (x : D) (xs : List D) : Bool := xs.any fun z => PyData.eqv z x
def kInL (neg : Bool) : KO := fun r1 r2 P => ∃ d ds, r1.datA = some d ∧ r2.lst = some ds ∧ SeqAt.shaped d = true ∧ SeqAt.shaped (.list ds) = true ∧ P (.im (.bool (if neg then !inD d ds else inD d ds)))
theorem RepR.dpl {r : R} {H0 : Hp} {v : V} (le : Sub F1 H1) (q : RepR K w H0 F1 H1 v r) {xs : List D} (e : r.lst = some xs) : Dp K H1 v (.list xs) := by
  obtain ⟨p, vs, rfl, h, l⟩ := q.list le e
  exact .lst h (RepL.mono le l).dp
theorem opd_inL : OpD K (rInD K) (kInL false) := by
  intro w H0 F H x y r1 r2 P Q x0 q1 q2 ⟨d, ds, e1, e2, s1, s2, p⟩ k
  exact ⟨d, ds, q1.dp x0.le e1, q2.dpl x0.le e2, s1, s2, k _ F H (.im _) x0 (.bl _) p⟩
theorem opd_notInL : OpD K (rNotInD K) (kInL true) := by
  intro w H0 F H x y r1 r2 P Q x0 q1 q2 ⟨d, ds, e1, e2, s1, s2, p⟩ k
  exact ⟨d, ds, q1.dp x0.le e1, q2.dpl x0.le e2, s1, s2, k _ F H (.im _) x0 (.bl _) p⟩
/-- ints in a tuple of ints -/
def kInT (neg : Bool) : KO := fun r1 r2 P => ∃ (i : Int) (ns : List Int), r1 = .im (.int i) ∧ r2 = .im (.tuple (ns.map PyData.int)) ∧ P (.im (.bool (if neg then !decide (i ∈ ns) else decide (i ∈ ns))))
theorem RepL.isInts : ∀ {ns : List Int} {vs : List V}, RepL K F vs (ns.map PyData.int) → vs = ns.map V.int
  | [], _, h => by cases h; rfl
  | n :: r, _, h => by
    rw [List.map_cons] at h
    cases h with
    | cons a t => cases a; rw [RepL.isInts t]; rfl
theorem inV_ints {i : Int} {ns : List Int} : inV (.int i) (ns.map V.int) = decide (i ∈ ns) := by
  unfold inV
  induction ns with
  | nil => rfl
  | cons n r ih =>
    rw [List.map_cons, List.any_cons, ih]
    have e : eqV (.int n) (.int i) = decide (n = i) := by
      first | rfl | (simp [eqV])
    rw [e]
    by_cases h : n = i
    · subst h; simp
    · have h' : ¬ i = n := fun z => h z.symm
      simp [h, h']
theorem flat_ints {ns : List Int} : (ns.map V.int).all flatV = true := by
  rw [List.all_map]
  exact List.all_eq_true.mpr fun _ _ => rfl
theorem opd_inT : OpD K (rIn K false) (kInT false) := by
  intro w H0 F H x y r1 r2 P Q x0 q1 q2 ⟨i, ns, e1, e2, p⟩ k
  subst e1; subst e2
  cases q1
  obtain ⟨b, us, rfl, hb, lb⟩ := RepR.tuple (K := K) (w := w) (H := H0) x0.le q2 rfl
  rw [RepL.isInts lb] at hb
  refine ⟨b, _, rfl, .inr (.inl (.inl (x0.le _ _ hb))), rfl, flat_ints, ?_⟩
  rw [inV_ints]
  exact k _ F H (.im _) x0 (.bl _) p
theorem opd_notInT : OpD K (rIn K true) (kInT true) := by
  intro w H0 F H x y r1 r2 P Q x0 q1 q2 ⟨i, ns, e1, e2, p⟩ k
  subst e1; subst e2
  cases q1
  obtain ⟨b, us, rfl, hb, lb⟩ := RepR.tuple (K := K) (w := w) (H := H0) x0.le q2 rfl
  rw [RepL.isInts lb] at hb
  refine ⟨b, _, rfl, .inr (.inl (.inl (x0.le _ _ hb))), rfl, flat_ints, ?_⟩
  rw [inV_ints]
  exact k _ F H (.im _) x0 (.bl _) p
theorem de_inL (hu : X.A.units + 65 < cLine) (ha : DE X G W a wa) (hb : DE X G W b wb) (hm : behindInMarks .In b = false := by rfl) : DE X G W (.Compare a [.In] [b] pos) (wOp (kInL false) wa wb) := de_cmp (op_inD hu) opd_inL ha hb hm
theorem de_notInL (hu : X.A.units + 65 < cLine) (ha : DE X G W a wa) (hb : DE X G W b wb) (hm : behindInMarks .NotIn b = false := by rfl) : DE X G W (.Compare a [.NotIn] [b] pos) (wOp (kInL true) wa wb) := de_cmp (op_notInD hu) opd_notInL ha hb hm
theorem de_inT (ha : DE X G W a wa) (hb : DE X G W b wb) (hm : behindInMarks .In b = false := by rfl) : DE X G W (.Compare a [.In] [b] pos) (wOp (kInT false) wa wb) := de_cmp op_in_seq opd_inT ha hb hm
theorem de_notInT (ha : DE X G W a wa) (hb : DE X G W b wb) (hm : behindInMarks .NotIn b = false := by rfl) : DE X G W (.Compare a [.NotIn] [b] pos) (wOp (kInT true) wa wb) := de_cmp op_notIn_seq opd_notInT ha hb hm
end
end
end DW
set_option Elab.async false
set_option linter.all false
set_option maxRecDepth 100000
set_option maxHeartbeats 4000000
namespace DW
open PySem PySem.Spec L2

section
variable {K : PySem.W.Frag} {w : Option Dw} {F F1 F2 H H1 H2 : Hp} {v : V} {r : R}
theorem RepL.at {vs : List V} {ds : List D} (l : RepL K F vs ds) {i : Int} {d : D} (e : atI ds i = some d) : ∃ v, atI vs i = some v ∧ RepD K F v d := by
  unfold atI at e ⊢
  rw [RepL.length l]
  cases q : ixN ds.length i with
  | none => rw [q] at e; cases e
  | some j =>
    rw [q] at e
    exact RepL.get l e

/-! ### items -/
def kIx : KO := fun r1 r2 P => match r1, r2 with
  | .im (.str s), .im (.int i) => s.length ≤ sizeLine ∧ ∃ c, atI s.cps.toList i = some c ∧ P (.im (.str ⟨#[c]⟩))
  | .im (.tuple xs), .im (.int i) => ∃ d, atI xs i = some d ∧ P (.im d)
  | r1, .im (.int i) => ∃ xs d, r1.lst = some xs ∧ atI xs i = some d ∧ P (.im d)
  | _, _ => False
theorem opd_ix : OpD K (fun x y H Q => (rIxL K x y H Q ∨ rIxT K x y H Q) ∨ rIxS x y H Q) kIx := by
  intro w H0 F H x y r1 r2 P Q x0 q1 q2 h k
  unfold kIx at h
  split at h
  · rename_i s i
    obtain ⟨hs, c, e, p⟩ := h
    cases q1; cases q2
    exact .inr ⟨s, i, c, rfl, rfl, hs, e, k _ F H (.im _) x0 (.str _) p⟩
  · rename_i xs i
    obtain ⟨d, e, p⟩ := h
    cases q2
    obtain ⟨a, vs, rfl, ha, la⟩ := RepR.tuple (K := K) (w := w) (H := H0) x0.le q1 (xs := xs) rfl
    obtain ⟨v, e2, rv⟩ := RepL.at la e
    exact .inl (.inr ⟨a, vs, i, v, rfl, rfl, .inl (.inl (x0.le _ _ ha)), e2, k _ F H (.im d) x0 rv p⟩)
  · rename_i i _ _
    obtain ⟨xs, d, e1, e, p⟩ := h
    cases q2
    obtain ⟨a, vs, rfl, ha, la⟩ := q1.list x0.le e1
    obtain ⟨v, e2, rv⟩ := RepL.at la e
    exact .inl (.inl ⟨a, vs, i, v, rfl, rfl, ha, e2, k _ F H (.im d) x0 rv p⟩)
  · exact h.elim

/-! ### dicts -/
def keyOf : D → Option Key
  | .int i => some (.inl i)
  | .str s => some (.inr s)
  | _ => none
def keysOf : List D → Option (List Key)
  | [] => some []
  | d :: ds => match keyOf d, keysOf ds with
    | some k, some ks => some (k :: ks)
    | _, _ => none
theorem RepD.key {d : D} {k : Key} (q : RepD K F v d) (e : keyOf d = some k) : v = kV k := by
  cases q with
  | int i => cases e; rfl
  | str x => cases e; rfl
  | _ => cases e
theorem RepL.keys : ∀ {ds : List D} {vs : List V} {ks : List Key}, RepL K F vs ds → keysOf ds = some ks → vs = ks.map kV
  | [], _, ks, l, e => by cases l; cases e; rfl
  | d :: ds, _, ks, l, e => by
    cases l with
    | cons a t =>
      unfold keysOf at e
      cases e1 : keyOf d with
      | none => rw [e1] at e; cases e
      | some k =>
        cases e2 : keysOf ds with
        | none => rw [e1, e2] at e; cases e
        | some k2 =>
          rw [e1, e2] at e
          cases e
          rw [RepD.key a e1, RepL.keys t e2]; rfl
theorem RepKV.length {κ : Type} : ∀ {vs : List (κ × V)} {ds : List (κ × D)}, RepKV K F vs ds → vs.length = ds.length
  | _, _, .nil => rfl
  | _, _, .cons _ t => by rw [List.length_cons, List.length_cons, RepKV.length t]
variable {κ : Type} [DecidableEq κ]
def valD (kvs : List (κ × D)) (k : κ) : Option D := (kvs.find? fun kv => decide (kv.1 = k)).map (·.2)
def putD (kvs : List (κ × D)) (k : κ) (v : D) : List (κ × D) :=
  if (kvs.any fun kv => decide (kv.1 = k)) = true then kvs.map (fun kv => if kv.1 = k then (kv.1, v) else kv) else kvs ++ [(k, v)]
theorem RepKV.val {k : κ} : ∀ {vs : List (κ × V)} {ds : List (κ × D)}, RepKV K F vs ds → (valD ds k = none ∧ valV vs k = none) ∨ ∃ d v, valD ds k = some d ∧ valV vs k = some v ∧ RepD K F v d
  | _, _, .nil => .inl ⟨rfl, rfl⟩
  | _, _, .cons (k := k') (v := v') (d := d') (vs := vr) (ds := dr) r t => by
    by_cases h : k' = k
    · exact .inr ⟨d', v', by simp [valD, List.find?_cons, h], valV_pos h, r⟩
    · have e1 : valD ((k', d') :: dr) k = valD dr k := by simp [valD, List.find?_cons, h]
      have e2 : valV ((k', v') :: vr) k = valV vr k := valV_neg h
      rw [e1, e2]
      exact RepKV.val t
theorem RepKV.any {k : κ} : ∀ {vs : List (κ × V)} {ds : List (κ × D)}, RepKV K F vs ds → (vs.any fun kv => decide (kv.1 = k)) = ds.any fun kv => decide (kv.1 = k)
  | _, _, .nil => rfl
  | _, _, .cons r t => by rw [List.any_cons, List.any_cons, RepKV.any t]
theorem RepKV.snoc {k : κ} {v : V} {d : D} (rd : RepD K F v d) : ∀ {vs : List (κ × V)} {ds : List (κ × D)}, RepKV K F vs ds → RepKV K F (vs ++ [(k, v)]) (ds ++ [(k, d)])
  | _, _, .nil => .cons rd .nil
  | _, _, .cons r t => .cons r (RepKV.snoc rd t)
theorem RepKV.mapp {k : κ} {v : V} {d : D} (rd : RepD K F v d) : ∀ {vs : List (κ × V)} {ds : List (κ × D)}, RepKV K F vs ds → RepKV K F (vs.map fun kv => if kv.1 = k then (kv.1, v) else kv) (ds.map fun kv => if kv.1 = k then (kv.1, d) else kv)
  | _, _, .nil => .nil
  | _, _, .cons (k := k') r t => by
    rw [List.map_cons, List.map_cons]
    by_cases h : k' = k
    · simp only [h, if_true]; exact .cons rd (RepKV.mapp rd t)
    · simp only [h, if_false]; exact .cons r (RepKV.mapp rd t)
theorem RepKV.put {k : κ} {v : V} {d : D} {vs : List (κ × V)} {ds : List (κ × D)} (l : RepKV K F vs ds) (rd : RepD K F v d) : RepKV K F (putK vs k v) (putD ds k d) := by
  unfold putK putD
  rw [l.any (k := k)]
  by_cases h : (ds.any fun kv => decide (kv.1 = k)) = true
  · rw [if_pos h, if_pos h]; exact l.mapp rd
  · rw [if_neg h, if_neg h]; exact l.snoc rd

/-- the dict of a result: its pairs by int and text keys, or by tuples of such -/
def R.dK : R → Option (List (Key × D))
  | .oK kvs => some kvs
  | .bK kvs => some kvs
  | _ => none
def R.dT : R → Option (List (List Key × D))
  | .oT kvs => some kvs
  | .bT kvs => some kvs
  | _ => none
theorem RepR.isK (q : RepR K w H F1 H1 v r) {kvs : List (Key × D)} (e : r.dK = some kvs) : ∃ p vs, v = .ref p ∧ H1 p = some (.dK vs) ∧ F1 p = none ∧ RepKV K F1 vs kvs := by
  cases r with
  | oK ys =>
    have z : ys = kvs := Option.some.inj e
    subst z
    obtain ⟨p, vs, rfl, h0, h, n, nd, l⟩ := q
    exact ⟨p, vs, rfl, h, n, l⟩
  | bK ys =>
    have z : ys = kvs := Option.some.inj e
    subst z
    obtain ⟨p, vs, rfl, h, n, nd, l⟩ := q
    exact ⟨p, vs, rfl, h, n, l⟩
  | _ => cases e
theorem RepR.isT (q : RepR K w H F1 H1 v r) {kvs : List (List Key × D)} (e : r.dT = some kvs) : ∃ p vs, v = .ref p ∧ H1 p = some (.dT vs) ∧ F1 p = none ∧ RepKV K F1 vs kvs := by
  cases r with
  | oT ys =>
    have z : ys = kvs := Option.some.inj e
    subst z
    obtain ⟨p, vs, rfl, h0, h, n, nd, l⟩ := q
    exact ⟨p, vs, rfl, h, n, l⟩
  | bT ys =>
    have z : ys = kvs := Option.some.inj e
    subst z
    obtain ⟨p, vs, rfl, h, n, nd, l⟩ := q
    exact ⟨p, vs, rfl, h, n, l⟩
  | _ => cases e
/-- what a dict holds at a key -/
def dGet (r1 r2 : R) (o : Option D) : Prop :=
  (∃ kvs d k, r1.dK = some kvs ∧ r2 = .im d ∧ keyOf d = some k ∧ o = valD kvs k) ∨ (∃ kvs ds ks, r1.dT = some kvs ∧ r2 = .im (.tuple ds) ∧ keysOf ds = some ks ∧ o = valD kvs ks)
theorem dGet.ok {H0 : Hp} {x y : V} {r1 r2 : R} {o : Option D} (le : Sub F H) (g : dGet r1 r2 o) (q1 : RepR K w H0 F H x r1) (q2 : RepR K w H0 F H y r2) :
    ∃ p ov, x = .ref p ∧ DGet H p y ov ∧ ((o = none ∧ ov = none) ∨ ∃ d v, o = some d ∧ ov = some v ∧ RepD K F v d) := by
  rcases g with ⟨kvs, d, k, e1, rfl, e2, rfl⟩ | ⟨kvs, ds, ks, e1, rfl, e2, rfl⟩
  · obtain ⟨p, vs, rfl, h, n, l⟩ := q1.isK e1
    obtain rfl := RepD.key q2 e2
    exact ⟨p, _, rfl, DGet.k h, l.val⟩
  · obtain ⟨p, vs, rfl, h, n, l⟩ := q1.isT e1
    obtain ⟨b, us, rfl, hb, lb⟩ := RepR.tuple (K := K) (w := w) (H := H0) le q2 (xs := ds) rfl
    obtain rfl := RepL.keys lb e2
    exact ⟨p, _, rfl, DGet.t h (le _ _ hb), l.val⟩
def wDget (wa wb : WE') : WE' := fun δ P PX => wa δ (fun r1 => wb δ (fun r2 => ∃ d, dGet r1 r2 (some d) ∧ P (.im d)) PX) PX
def wDin (neg : Bool) (wa wb : WE') : WE' := fun δ P PX => wa δ (fun r1 => wb δ (fun r2 => ∃ o, dGet r2 r1 o ∧ P (.im (.bool (if neg then !o.isSome else o.isSome)))) PX) PX
section
variable {X : Cx} {G : Gd} {W : WX} {e a b c : Expr} {wa wb wc : WE'} {pos : Pos}
theorem de_ix (ha : DE X G W a wa) (hb : DE X G W b wb) (hs : PlainIx b := by exact fun _ _ => rfl) : DE X G W (.Subscript a b pos) (wOp kIx wa wb) :=
  PE.imp (pe_ix ((ix_list.or ix_tup).or ix_str) ha hb hs) fun _ _ _ h => tOp_of opd_ix h
theorem de_dget (hu : X.A.units + 1 < cLine) (ha : DE X G W a wa) (hb : DE X G W b wb) (hs : NoSl b := by exact fun _ _ => rfl) : DE X G W (.Subscript a b pos) (wDget wa wb) :=
  PE.imp (pe_dget hu ha hb hs) fun σ H Q h => by
    obtain ⟨F, δ, P, PX, S, p, q, xk⟩ := h
    refine ⟨F, δ, _, PX, S, p, fun x F1 H1 r1 x1 q1 p1 => ?_, xk⟩
    refine dT.next S x1 xk p1 fun y F2 H2 r2 x2 q2 ⟨d, g, p2⟩ => ?_
    obtain ⟨p, ov, e, g', z⟩ := g.ok x2.le (q1.to x2) (q2.back x1)
    rcases z with ⟨z, _⟩ | ⟨d', v, z, rfl, rd⟩
    · cases z
    · cases z
      exact ⟨p, v, e, g', q v F2 H2 (.im d) (x1.trans x2) rd p2⟩
theorem din_of {neg : Bool} {σ : L2.St} {H : Hp} {Q : VK} (h : dT K G W (wDin neg wa wb) σ H Q) : dT K G W wa σ H fun y H1 => dT K G W wb σ H1 fun x H2 => ∃ a o, x = .ref a ∧ DGet H2 a y o ∧ Q (.bl (if neg then !o.isSome else o.isSome)) H2 := by
  obtain ⟨F, δ, P, PX, S, p, q, xk⟩ := h
  refine ⟨F, δ, _, PX, S, p, fun x F1 H1 r1 x1 q1 p1 => ?_, xk⟩
  refine dT.next S x1 xk p1 fun y F2 H2 r2 x2 q2 ⟨o, g, p2⟩ => ?_
  obtain ⟨p, ov, e, g', z⟩ := g.ok x2.le (q2.back x1) (q1.to x2)
  refine ⟨p, ov, e, g', ?_⟩
  have eo : ov.isSome = o.isSome := by
    rcases z with ⟨rfl, rfl⟩ | ⟨d', v, rfl, rfl, _⟩ <;> rfl
  rw [eo]
  exact q _ F2 H2 (.im _) (x1.trans x2) (.bl _) p2
theorem de_din (hu : X.A.units + 1 < cLine) (ha : DE X G W a wa) (hb : DE X G W b wb) (hm : behindInMarks .In b = false := by rfl) : DE X G W (.Compare a [.In] [b] pos) (wDin false wa wb) :=
  PE.imp (pe_cmp (pc_din hu ha hb) hm) fun σ H Q h => din_of h
theorem de_dnotin (hu : X.A.units + 1 < cLine) (ha : DE X G W a wa) (hb : DE X G W b wb) (hm : behindInMarks .NotIn b = false := by rfl) : DE X G W (.Compare a [.NotIn] [b] pos) (wDin true wa wb) :=
  PE.imp (pe_cmp (pc_dnotin hu ha hb) hm) fun σ H Q h => din_of h
theorem tBin_of {neg : Bool} {σ : L2.St} {H : Hp} {Q : Bool → Hp → Prop} (h : dTT K G W (wB (wDin neg wa wb)) σ H Q) : dT K G W wa σ H fun y H1 => dT K G W wb σ H1 fun x H2 => ∃ a o, x = .ref a ∧ DGet H2 a y o ∧ Q (if neg then !o.isSome else o.isSome) H2 := by
  have h' := din_of (tB_of h)
  obtain ⟨F, δ, P, PX, S, p, q, xk⟩ := h'
  refine ⟨F, δ, P, PX, S, p, fun v F' H' r x1 q1 p1 => ?_, xk⟩
  obtain ⟨F, δ, P, PX, S, p, q, xk⟩ := q v F' H' r x1 q1 p1
  refine ⟨F, δ, P, PX, S, p, fun v F' H' r x1 q1 p1 => ?_, xk⟩
  obtain ⟨a, o, e, g, c, ec, z⟩ := q v F' H' r x1 q1 p1
  cases ec
  exact ⟨a, o, e, g, z⟩
theorem dt_din (hu : X.A.units + 1 < cLine) (ha : DE X G W a wa) (hb : DE X G W b wb) (hm : behindInMarks .In b = false := by rfl) : DT X G W (.Compare a [.In] [b] pos) (wB (wDin false wa wb)) :=
  PT.imp (pt_cmp (pc_din hu ha hb) hm) fun σ H Q h => din_of (tB_of h)
theorem dt_dnotin (hu : X.A.units + 1 < cLine) (ha : DE X G W a wa) (hb : DE X G W b wb) (hm : behindInMarks .NotIn b = false := by rfl) : DT X G W (.Compare a [.NotIn] [b] pos) (wB (wDin true wa wb)) :=
  PT.imp (pt_cmp (pc_dnotin hu ha hb) hm) fun σ H Q h => din_of (tB_of h)
end

/-! ### arguments -/
def waNil : WA := fun _ P _ => P []
def waCons (we : WE') (wa : WA) : WA := fun δ P PX => we δ (fun r => wa δ (fun rs => P (r :: rs)) PX) PX
/-- a new list is frozen as soon as it is made -/
def R.frz : R → Option R
  | .im d => some (.im d)
  | .ol xs => some (.im (.list xs))
  | .drw => some .drw
  | _ => none
def wfCons (we : WE') (wa : WA) : WA := fun δ P PX => we δ (fun r => ∃ r', r.frz = some r' ∧ wa δ (fun rs => P (r' :: rs)) PX) PX
theorem RepR.frz {F0 H0 : Hp} (x : Ext w F0 H0 F1 H1) (q : RepR K w H0 F1 H1 v r) {r' : R} (e : r.frz = some r') : ∃ F2, Ext w F0 H0 F2 H1 ∧ Sub F1 F2 ∧ RepR K w H0 F2 H1 v r' := by
  cases r with
  | im d =>
    have z : R.im d = r' := Option.some.inj e
    subst z
    exact ⟨F1, x, Sub.refl, q⟩
  | ol xs =>
    have z : R.im (.list xs) = r' := Option.some.inj e
    subst z
    exact q.freeze x (d := .list xs) rfl
  | drw =>
    have z : R.drw = r' := Option.some.inj e
    subst z
    exact ⟨F1, x, Sub.refl, q⟩
  | _ => cases e
section
variable {X : Cx} {G : Gd} {W : WX} {e a b c : Expr} {es : List Expr} {we : WE'} {wa : WA} {pos : Pos}
theorem da_nil : DA X G W [] waNil := PA.imp pa_nil fun σ H Q ⟨F, δ, P, PX, S, p, k, xk⟩ => k [] F H [] S.ext.stay .nil p
theorem da_cons (he : DE X G W e we) (ha : DA X G W es wa) (hs : starEach (e :: es) X.env = (false, eval e X.env) :: starEach es X.env := by rfl) : DA X G W (e :: es) (waCons we wa) :=
  PA.imp (pa_cons he ha hs) fun σ H Q ⟨F, δ, P, PX, S, p, k, xk⟩ => by
    refine ⟨F, δ, _, PX, S, p, fun x F1 H1 r1 x1 q1 p1 => ?_, xk⟩
    refine dTA.next S x1 xk p1 fun vs F2 H2 rs x2 q2 p2 => ?_
    exact k (x :: vs) F2 H2 (r1 :: rs) (x1.trans x2) (.cons (q1.to x2) (q2.back x1)) p2
theorem da_fcons (he : DE X G W e we) (ha : DA X G W es wa) (hs : starEach (e :: es) X.env = (false, eval e X.env) :: starEach es X.env := by rfl) : DA X G W (e :: es) (wfCons we wa) :=
  PA.imp (pa_cons he ha hs) fun σ H Q ⟨F, δ, P, PX, S, p, k, xk⟩ => by
    refine ⟨F, δ, _, PX, S, p, fun x F1 H1 r1 x1 q1 ⟨r', er, p1⟩ => ?_, xk⟩
    obtain ⟨F1', x1', _, q1'⟩ := q1.frz x1 er
    refine dTA.next S x1' xk p1 fun vs F2 H2 rs x2 q2 p2 => ?_
    exact k (x :: vs) F2 H2 (r' :: rs) (x1'.trans x2) (.cons (q1'.to x2) (q2.back x1')) p2
/-- data alone -/
def dats : List R → Option (List D)
  | [] => some []
  | .im d :: rs => match dats rs with
    | some ds => some (d :: ds)
    | none => none
  | _ => none
theorem RepRs.dats : ∀ {vs : List V} {rs : List R} {ds : List D} {H0 : Hp}, RepRs K w H0 F H vs rs → DW.dats rs = some ds → RepL K F vs ds
  | _, [], ds, _, q, e => by cases q; cases e; exact .nil
  | _, r :: rs, ds, H0, q, e => by
    cases q with
    | cons a t =>
      cases r with
      | im d =>
        unfold DW.dats at e
        cases e2 : DW.dats rs with
        | none => rw [e2] at e; cases e
        | some ds' =>
          rw [e2] at e
          cases e
          exact .cons a (RepRs.dats t e2)
      | _ => cases e
def wTup (wa : WA) : WE' := fun δ P PX => wa δ (fun rs => ∃ ds, dats rs = some ds ∧ ds.length ≤ sizeLine ∧ P (.im (.tuple ds))) PX
def wLst (wa : WA) : WE' := fun δ P PX => wa δ (fun rs => ∃ ds, dats rs = some ds ∧ ds.length ≤ sizeLine ∧ P (.ol ds)) PX
theorem de_tup {k} (h : DA X G W es wa) : DE X G W (.Tuple es k pos) (wTup wa) := PE.imp (pe_tup h) fun σ H Q ⟨F, δ, P, PX, S, p, k, xk⟩ => by
  refine ⟨F, δ, _, PX, S, p, fun vs F1 H1 rs x1 q1 ⟨ds, e, hl, p1⟩ => ?_, xk⟩
  have l := q1.dats e
  refine ⟨by rw [RepL.length l]; exact hl, fun a ha => ?_⟩
  obtain ⟨x2, r2⟩ := new_tup (K := X.K) x1.stay ha l
  exact k _ _ _ _ (x1.trans x2) (r2.back x1) p1
theorem de_lst (h : DA X G W es wa) : DE X G W (.List es pos) (wLst wa) := PE.imp (pe_lst h) fun σ H Q ⟨F, δ, P, PX, S, p, k, xk⟩ => by
  refine ⟨F, δ, _, PX, S, p, fun vs F1 H1 rs x1 q1 ⟨ds, e, hl, p1⟩ => ?_, xk⟩
  have l := q1.dats e
  refine ⟨by rw [RepL.length l]; exact hl, fun a ha => ?_⟩
  obtain ⟨x2, r2⟩ := new_list (K := X.K) x1.stay ha l
  exact k _ _ _ _ (x1.trans x2) (r2.back x1) p1

/-! ### built-in functions by values -/
abbrev KC := List R → (R → Prop) → Prop
def CallD (K : PySem.W.Frag) (r : List V → Hp → VK → Prop) (k : KC) : Prop := ∀ (w : Option Dw) (H0 F H : Hp) (vs : List V) (rs : List R) (P : R → Prop) (Q : VK), Ext w F H F H → RepRs K w H0 F H vs rs → k rs P →
  (∀ v F' H' r, Ext w F H F' H' → RepR K w H F' H' v r → P r → Q v H') → r vs H Q
def wCall (k : KC) (wa : WA) : WE' := fun δ P PX => wa δ (fun rs => k rs P) PX
theorem tCB_of {r : List V → Hp → VK → Prop} {k : KC} (hk : CallD K r k) {σ : L2.St} {H : Hp} {Q : VK} (h : dT K G W (wCall k wa) σ H Q) : tCB r (dTA K G W wa) σ H Q := by
  obtain ⟨F, δ, P, PX, S, p, q, xk⟩ := h
  refine ⟨F, δ, _, PX, S, p, fun vs F1 H1 rs x1 q1 p1 => ?_, xk⟩
  exact hk G.w H F1 H1 vs rs P Q x1.stay q1 p1 fun v F' H' r x2 q2 p2 => q v F' H' r (x1.trans x2) (q2.back x1) p2
theorem CallD.or {r r' : List V → Hp → VK → Prop} {k k' : KC} (h : CallD K r k) (h' : CallD K r' k') : CallD K (fun xs H Q => r xs H Q ∨ r' xs H Q) (fun a P => k a P ∨ k' a P) := by
  intro w H0 F H xs rs P Q x0 q1 hk c
  rcases hk with hk | hk
  · exact .inl (h w H0 F H xs rs P Q x0 q1 hk c)
  · exact .inr (h' w H0 F H xs rs P Q x0 q1 hk c)
theorem CallD.imp {r : List V → Hp → VK → Prop} {k k' : KC} (h : CallD K r k) (i : ∀ a P, k' a P → k a P) : CallD K r k' := fun w H0 F H xs rs P Q x0 q1 hk c => h w H0 F H xs rs P Q x0 q1 (i _ _ hk) c
/-- len: a text, a list, a tuple, a dict -/
def kLen : KC := fun rs P => match rs with
  | [.im (.str s)] => s.length ≤ sizeLine ∧ P (.im (.int s.length))
  | [.im (.tuple xs)] => P (.im (.int xs.length))
  | [.im (.list xs)] => P (.im (.int xs.length))
  | [.ol xs] => P (.im (.int xs.length))
  | [.bl xs] => P (.im (.int xs.length))
  | _ => False
theorem callD_len : CallD K (fun xs H Q => ∃ x n, xs = [x] ∧ LenV K x H n ∧ Q (.int n) H) kLen := by
  intro w H0 F H vs rs P Q x0 q h k
  have lst : ∀ {v : V} {r : R} {xs : List D}, RepR K w H0 F H v r → r.lst = some xs → P (.im (.int xs.length)) → ∃ x n, [v] = [x] ∧ LenV K x H n ∧ Q (.int n) H := fun {v r xs} q e p => by
    obtain ⟨a, us, rfl, ha, la⟩ := q.list x0.le e
    refine ⟨_, us.length, rfl, .inl ⟨us, ha, rfl⟩, ?_⟩
    rw [RepL.length la]
    exact k _ F H (.im _) x0 (.int _) p
  unfold kLen at h
  split at h
  · rename_i s
    obtain ⟨hs, p⟩ := h
    cases q with
    | cons a t =>
      cases t; cases a
      exact ⟨_, s.length, rfl, ⟨hs, rfl⟩, k _ F H (.im _) x0 (.int _) p⟩
  · rename_i xs
    cases q with
    | cons a t =>
      cases t
      obtain ⟨b, us, rfl, hb, lb⟩ := RepR.tuple (K := K) (w := w) (H := H0) x0.le a (xs := xs) rfl
      refine ⟨_, us.length, rfl, .inr ⟨us, .inl (.inl (x0.le _ _ hb)), rfl⟩, ?_⟩
      rw [RepL.length lb]
      exact k _ F H (.im _) x0 (.int _) h
  · cases q with
    | cons a t => cases t; exact lst a rfl h
  · cases q with
    | cons a t => cases t; exact lst a rfl h
  · cases q with
    | cons a t => cases t; exact lst a rfl h
  · exact h.elim
end
end
end DW
set_option Elab.async false
set_option linter.all false
set_option maxRecDepth 100000
set_option maxHeartbeats 4000000
namespace DW
open PySem PySem.Spec L2

/-! ### storing in slots -/
def R.sv : R → Option SV
  | .im d => some (.im d)
  | .ol xs => some (.ol xs)
  | .oK xs => some (.oK xs)
  | .oT xs => some (.oT xs)
  | .drw => some .drw
  | _ => none
section
variable {K : PySem.W.Frag} {G : Gd} {F F1 F2 H H1 H2 : Hp} {σ : L2.St} {δ : DEnv}
theorem RepSV.own_at {w : Option Dw} {v : V} {s : SV} (r : RepSV K w F H v s) (o : s.owned = true) : ∃ p u, v = .ref p ∧ H p = some u ∧ F p = none ∧ ∀ d, w = some d → d.a ≠ p := by
  cases s with
  | im d => cases o
  | ol xs => obtain ⟨p, vs, e, h, n, nd, _⟩ := r; exact ⟨p, _, e, h, n, nd⟩
  | oK xs => obtain ⟨p, vs, e, h, n, nd, _⟩ := r; exact ⟨p, _, e, h, n, nd⟩
  | oT xs => obtain ⟨p, vs, e, h, n, nd, _⟩ := r; exact ⟨p, _, e, h, n, nd⟩
  | drw => cases o
/-- a slot is stored; what it holds, if it is its own, stands at no other slot's place -/
theorem RepS.store (S : RepS K G F H σ δ) {i : Nat} {v : V} {s : SV} (r : RepSV K G.w F H v s)
    (fr : s.owned = true → ∀ p, v = .ref p → G.H0 p = none ∧ ∀ (j : Nat) t, j ≠ i → δ[j]? = some (some t) → t.owned = true → σ[j]? ≠ some (some (.ref p))) : RepS K G F H (σ.set i (some v)) (δ.set i (some s)) := by
  refine ⟨S.ext, by rw [List.length_set, List.length_set]; exact S.len, fun j t e => ?_, fun j t p e o e2 => ?_, fun j k t u p ne e1 e2 o1 o2 e3 e4 => ?_⟩
  · by_cases h : j = i
    · subst h
      have hl : j < δ.length := by
        by_cases hl : j < δ.length
        · exact hl
        · rw [List.getElem?_eq_none (by rw [List.length_set]; omega)] at e; cases e
      rw [List.getElem?_set_self hl] at e
      cases e
      exact ⟨v, List.getElem?_set_self (by rw [S.len]; exact hl), r⟩
    · rw [List.getElem?_set_ne (Ne.symm h)] at e ⊢
      exact S.slot j t e
  · by_cases h : j = i
    · subst h
      have hl : j < δ.length := by
        by_cases hl : j < δ.length
        · exact hl
        · rw [List.getElem?_eq_none (by rw [List.length_set]; omega)] at e; cases e
      rw [List.getElem?_set_self hl] at e
      rw [List.getElem?_set_self (by rw [S.len]; exact hl)] at e2
      cases e; cases e2
      exact (fr o p rfl).1
    · rw [List.getElem?_set_ne (Ne.symm h)] at e e2
      exact S.fresh j t p e o e2
  · by_cases h : j = i
    · subst h
      have hl : j < δ.length := by
        by_cases hl : j < δ.length
        · exact hl
        · rw [List.getElem?_eq_none (by rw [List.length_set]; omega)] at e1; cases e1
      rw [List.getElem?_set_self hl] at e1
      rw [List.getElem?_set_self (by rw [S.len]; exact hl)] at e3
      rw [List.getElem?_set_ne ne] at e2 e4
      cases e1; cases e3
      exact (fr o1 p rfl).2 k u (Ne.symm ne) e2 o2 e4
    · rw [List.getElem?_set_ne (Ne.symm h)] at e1 e3
      by_cases h' : k = i
      · subst h'
        have hl : k < δ.length := by
          by_cases hl : k < δ.length
          · exact hl
          · rw [List.getElem?_eq_none (by rw [List.length_set]; omega)] at e2; cases e2
        rw [List.getElem?_set_self hl] at e2
        rw [List.getElem?_set_self (by rw [S.len]; exact hl)] at e4
        cases e2; cases e4
        exact (fr o2 p rfl).2 j t ne e1 o1 e3
      · rw [List.getElem?_set_ne (Ne.symm h')] at e2 e4
        exact S.apart j k t u p ne e1 e2 o1 o2 e3 e4
theorem RepR.to_sv {w : Option Dw} {v : V} {r : R} {s : SV} (q : RepR K w H F1 H1 v r) (e : r.sv = some s) : RepSV K w F1 H1 v s ∧ (s.owned = true → ∀ p, v = .ref p → H p = none) := by
  cases r with
  | im d => cases e; exact ⟨q, fun z => nomatch z⟩
  | ol xs => cases e; obtain ⟨p, vs, rfl, h0, h, n, nd, l⟩ := q; exact ⟨⟨p, vs, rfl, h, n, nd, l⟩, fun _ p' e => by cases e; exact h0⟩
  | oK xs => cases e; obtain ⟨p, vs, rfl, h0, h, n, nd, l⟩ := q; exact ⟨⟨p, vs, rfl, h, n, nd, l⟩, fun _ p' e => by cases e; exact h0⟩
  | oT xs => cases e; obtain ⟨p, vs, rfl, h0, h, n, nd, l⟩ := q; exact ⟨⟨p, vs, rfl, h, n, nd, l⟩, fun _ p' e => by cases e; exact h0⟩
  | drw => cases e; exact ⟨q, fun z => nomatch z⟩
  | _ => cases e
/-- a result of an expression is stored -/
theorem RepS.put (S : RepS K G F H σ δ) (x : Ext G.w F H F1 H1) {i : Nat} {v : V} {r : R} {s : SV} (q : RepR K G.w H F1 H1 v r) (e : r.sv = some s) : RepS K G F1 H1 (σ.set i (some v)) (δ.set i (some s)) := by
  obtain ⟨rs, n⟩ := q.to_sv e
  refine (S.to x).store rs fun o p ep => ?_
  have hp := n o p ep
  refine ⟨S.ext.none hp, fun j t hj ej ot es => ?_⟩
  obtain ⟨v', e1, r'⟩ := S.slot j t ej
  rw [es] at e1
  cases e1
  obtain ⟨p', u, ep', h', _⟩ := r'.own_at ot
  cases ep'
  rw [hp] at h'; cases h'

/-! ### targets: data alone -/
abbrev WG := D → DEnv → (DEnv → Prop) → Prop
abbrev WGs := List D → DEnv → (DEnv → Prop) → Prop
/-- only the slots ts are stored -/
def Only (ts : List Nat) (σ σ' : L2.St) : Prop := σ'.length = σ.length ∧ ∀ j, j ∉ ts → σ'[j]? = σ[j]?
def dGT (K : PySem.W.Frag) (G : Gd) (ts : List Nat) (wg : WG) : TG := fun v σ H Q => ∃ F δ d P, RepS K G F H σ δ ∧ RepD K F v d ∧ wg d δ P ∧ ∀ σ' δ', Only ts σ σ' → RepS K G F H σ' δ' → P δ' → Q σ' H
def dGTs (K : PySem.W.Frag) (G : Gd) (ts : List Nat) (wg : WGs) : TGs := fun vs σ H Q => ∃ F δ ds P, RepS K G F H σ δ ∧ RepL K F vs ds ∧ wg ds δ P ∧ ∀ σ' δ', Only ts σ σ' → RepS K G F H σ' δ' → P δ' → Q σ' H
abbrev DG (X : Cx) (G : Gd) (ts : List Nat) (e : Expr) (wg : WG) : Prop := PG X e (dGT X.K G ts wg)
abbrev DGs (X : Cx) (G : Gd) (ts : List Nat) (es : List Expr) (wg : WGs) : Prop := PGs X es (dGTs X.K G ts wg)
theorem PG.imp {X : Cx} {e : Expr} {t t' : TG} (h : PG X e t) (i : ∀ v σ H Q, t' v σ H Q → t v σ H Q) : PG X e t' := ⟨fun pins s σ H v u Q I r q => h.run pins s σ H v u Q I r (i v σ H Q q)⟩
theorem PGs.imp {X : Cx} {e : List Expr} {t t' : TGs} (h : PGs X e t) (i : ∀ v σ H Q, t' v σ H Q → t v σ H Q) : PGs X e t' := ⟨fun pins s σ H v u Q I r q => h.run pins s σ H v u Q I r (i v σ H Q q)⟩
theorem Only.refl {ts : List Nat} : Only ts σ σ := ⟨rfl, fun _ _ => rfl⟩
theorem Only.one {i : Nat} {v : Option V} : Only [i] σ (σ.set i v) := ⟨List.length_set, fun j h => List.getElem?_set_ne (fun z => h (by rw [z]; exact List.mem_cons_self))⟩
theorem Only.app {ts us : List Nat} {σ1 σ2 : L2.St} (a : Only ts σ σ1) (b : Only us σ1 σ2) : Only (ts ++ us) σ σ2 :=
  ⟨b.1.trans a.1, fun j h => (b.2 j fun z => h (List.mem_append_right _ z)).trans (a.2 j fun z => h (List.mem_append_left _ z))⟩
def wgName (i : Nat) : WG := fun d δ P => P (δ.set i (some (.im d)))
def wgsNil : WGs := fun ds δ P => ds = [] ∧ P δ
def wgsCons (g : WG) (gs : WGs) : WGs := fun ds δ P => ∃ d r, ds = d :: r ∧ g d δ fun δ1 => gs r δ1 P
def wgTup (n : Nat) (gs : WGs) : WG := fun d δ P => ∃ ds, d = .tuple ds ∧ ds.length = n ∧ gs ds δ P
section
variable {X : Cx} {W : WX} {e : Expr} {es : List Expr} {pos : Pos}
theorem dg_name {i : Nat} (h : PG X e (gName i)) : DG X G [i] e (wgName i) := PG.imp h fun v σ H Q ⟨F, δ, d, P, S, r, p, k⟩ =>
  k _ _ Only.one (S.store (s := .im d) r fun z => nomatch z) p
theorem dgs_nil : DGs X G [] [] wgsNil := PGs.imp pgs_nil fun vs σ H Q ⟨F, δ, ds, P, S, r, ⟨e, p⟩, k⟩ => by
  subst e
  cases r
  exact ⟨rfl, k σ δ Only.refl S p⟩
theorem dgs_cons {ts us : List Nat} {g : WG} {gs : WGs} (h : DG X G ts e g) (hs : DGs X G us es gs) (ha : (assignEach (e :: es) X.env).map (·.2) = assign e X.env :: (assignEach es X.env).map (·.2) := by rfl) : DGs X G (ts ++ us) (e :: es) (wgsCons g gs) :=
  PGs.imp (pgs_cons h hs ha) fun vs σ H Q ⟨F, δ, ds, P, S, r, ⟨d, rr, e, p⟩, k⟩ => by
    subst e
    cases r with
    | cons a t => exact ⟨_, _, rfl, F, δ, d, _, S, a, p, fun σ1 δ1 o1 S1 p1 => ⟨F, δ1, rr, P, S1, t, p1, fun σ2 δ2 o2 S2 p2 => k σ2 δ2 (o1.app o2) S2 p2⟩⟩
theorem dg_tup {ts : List Nat} {gs : WGs} {n k : Nat} (hc : X.calm = true) (h : DGs X G ts es gs) (hn : (assignEach es X.env).length = n := by rfl) (hst : (assignEach es X.env).findIdx? (·.1) = none := by rfl) : DG X G ts (.Tuple es k pos) (wgTup n gs) :=
  PG.imp (pg_tup hc h hn hst) fun v σ H Q ⟨F, δ, d, P, S, r, ⟨ds, e, hl, p⟩, k⟩ => by
    subst e
    cases r with
    | tup ha l => exact ⟨_, _, rfl, .inl (.inl (S.ext.le _ _ ha)), by rw [RepL.length l]; exact hl, F, δ, ds, P, S, l, p, k⟩
end

/-! ### what is walked -/
abbrev WI := DEnv → (List D → Prop) → (DX → Prop) → Prop
/-- the walk of items while C holds -/
def DWalk (K : PySem.W.Frag) (w : Option Dw) (C : Hp → Hp → Prop) (J : It) (items : List D) : Prop :=
  ∀ F H, C F H → Ext w F H F H → (∀ i, i < items.length → J.go i H) ∧ J.stop items.length H ∧
    ∀ i x H' d, items[i]? = some d → J.yld i H x H' → ∃ F', Ext w F H F' H' ∧ RepD K F' x d
def StC (w : Option Dw) (st : Bool) (C : Hp → Hp → Prop) : Prop :=
  if st = true then ∀ F H F2 H2, C F H → Sub F F2 → Sub F2 H2 → C F2 H2 else ∀ F H F2 H2, C F H → Ext w F H F2 H2 → C F2 H2
theorem StC.ext {w : Option Dw} {st : Bool} {C : Hp → Hp → Prop} (s : StC w st C) (c : C F H) (x : Ext w F H F1 H1) : C F1 H1 := by
  unfold StC at s
  cases st with
  | true => exact s F H F1 H1 c x.fs x.le
  | false => exact s F H F1 H1 c x
def dTI (K : PySem.W.Frag) (G : Gd) (W : WX) (st : Bool) (wi : WI) : TI := fun σ H R => ∃ F δ P PX, RepS K G F H σ δ ∧ wi δ P PX ∧
  (∀ J C F' H' items, Ext G.w F H F' H' → C F' H' → DWalk K G.w C J items → StC G.w st C → P items → R J H') ∧ xok K G.w W F H σ PX
abbrev DI (X : Cx) (G : Gd) (W : WX) (st : Bool) (tg e : Expr) (wi : WI) : Prop := PI X tg e (dTI X.K G W st wi)
theorem PI.imp {X : Cx} {tg e : Expr} {t t' : TI} (h : PI X tg e t) (i : ∀ σ H Q, t' σ H Q → t σ H Q) : PI X tg e t' := ⟨fun pins s σ H Q I q => h.run pins s σ H Q I (i σ H Q q)⟩
section
variable {X : Cx} {W : WX} {st : Bool} {tg e : Expr} {we : WE'} {pos : Pos}
/-- a frozen list -/
def wiL (we : WE') : WI := fun δ P PX => we δ (fun r => ∃ xs, r.dat = some (.list xs) ∧ P xs) PX
/-- a list, a local's own too -/
def wiLb (we : WE') : WI := fun δ P PX => we δ (fun r => ∃ xs, r.lst = some xs ∧ P xs) PX
def wiT (we : WE') : WI := fun δ P PX => we δ (fun r => ∃ xs, r.tup = some xs ∧ P xs) PX
def signs (s : Str) : List D := s.cps.toList.map fun c => .str ⟨#[c]⟩
def wiS (we : WE') : WI := fun δ P PX => we δ (fun r => ∃ s, r = .im (.str s) ∧ P (signs s)) PX
theorem walkL {w : Option Dw} {a : Addr} {vs : List V} {xs : List D} {F0 : Hp} (l : RepL K F0 vs xs) : DWalk K w (fun F H => Sub F0 F ∧ SqL K H a vs) (Itl K a) xs := by
  intro F H ⟨s0, h⟩ x0
  refine ⟨fun i hi => ?_, ⟨vs, h, by rw [RepL.length l]; exact Nat.le_refl _⟩, fun i x H' d e y => ?_⟩
  · have hi' : i < vs.length := by rw [RepL.length l]; exact hi
    exact ⟨vs, vs[i], h, List.getElem?_eq_getElem hi'⟩
  · obtain ⟨rfl, y⟩ := y
    obtain ⟨v, e1, rv⟩ := RepL.get l e
    have e2 := y vs h
    rw [e1] at e2
    cases e2
    exact ⟨F, x0, RepD.mono s0 rv⟩
theorem walkT {w : Option Dw} {a : Addr} {vs : List V} {xs : List D} {F0 : Hp} (l : RepL K F0 vs xs) : DWalk K w (fun F H => Sub F0 F ∧ SqT K H a vs) (Itt K a) xs := by
  intro F H ⟨s0, h⟩ x0
  refine ⟨fun i hi => ?_, ⟨vs, h, by rw [RepL.length l]; exact Nat.le_refl _⟩, fun i x H' d e y => ?_⟩
  · have hi' : i < vs.length := by rw [RepL.length l]; exact hi
    exact ⟨vs, vs[i], h, List.getElem?_eq_getElem hi'⟩
  · obtain ⟨rfl, y⟩ := y
    obtain ⟨v, e1, rv⟩ := RepL.get l e
    have e2 := y vs h
    rw [e1] at e2
    cases e2
    exact ⟨F, x0, RepD.mono s0 rv⟩
theorem di_list (he : DE X G W e we) : DI X G W true tg e (wiL we) := PI.imp (pi_list he) fun σ H R ⟨F, δ, P, PX, S, p, k, xk⟩ => by
  refine ⟨F, δ, _, PX, S, p, fun v F1 H1 r x1 q ⟨xs, e, p1⟩ => ?_, xk⟩
  obtain ⟨F2, x2, _, rd⟩ := q.freeze x1 e
  cases rd with
  | lst h l =>
    rename_i a vs
    refine ⟨a, rfl, ⟨vs, .inl (.inl (x2.le _ _ h))⟩, k _ (fun F H => Sub F2 F ∧ F a = some (.lst vs) ∧ Sub F H) F2 H1 xs x2 ⟨Sub.refl, h, x2.le⟩ (fun F H ⟨s0, hr, le⟩ x0 => walkL l F H ⟨s0, .inl (.inl (le _ _ hr))⟩ x0) ?_ p1⟩
    exact fun F H F' H' ⟨s0, hr, le⟩ s1 s2 => ⟨s0.trans s1, s1 _ _ hr, s2⟩
theorem di_listb (he : DE X G W e we) : DI X G W false tg e (wiLb we) := PI.imp (pi_list he) fun σ H R ⟨F, δ, P, PX, S, p, k, xk⟩ => by
  refine ⟨F, δ, _, PX, S, p, fun v F1 H1 r x1 q ⟨xs, e, p1⟩ => ?_, xk⟩
  cases r with
  | im d =>
    cases d with
    | list ys =>
      have z : ys = xs := Option.some.inj e
      subst z
      cases q with
      | lst h l =>
        rename_i a vs
        exact ⟨a, rfl, ⟨vs, .inl (.inl (x1.le _ _ h))⟩, k _ (fun F H => Sub F1 F ∧ F a = some (.lst vs) ∧ Sub F H) F1 H1 ys x1 ⟨Sub.refl, h, x1.le⟩ (fun F H ⟨s0, hr, le⟩ x0 => walkL l F H ⟨s0, .inl (.inl (le _ _ hr))⟩ x0) (fun F H F' H' ⟨s0, hr, le⟩ y => ⟨s0.trans y.fs, y.fs _ _ hr, y.le⟩) p1⟩
    | _ => cases e
  | ol ys =>
    have z : ys = xs := Option.some.inj e
    subst z
    obtain ⟨a, vs, rfl, _, h, n, nd, l⟩ := q
    refine ⟨a, rfl, ⟨vs, SqL.of h⟩, k _ (fun F H => Sub F1 F ∧ H a = some (.lst vs) ∧ F a = none) F1 H1 ys x1 ⟨Sub.refl, h, n⟩ (fun F H ⟨s0, hr, _⟩ x0 => walkL l F H ⟨s0, SqL.of hr⟩ x0) (fun F H F' H' ⟨s0, hr, hn⟩ y => ?_) p1⟩
    obtain ⟨h', n'⟩ := y.keepN hr hn nd
    exact ⟨s0.trans y.fs, h', n'⟩
  | bl ys =>
    have z : ys = xs := Option.some.inj e
    subst z
    obtain ⟨a, vs, rfl, h, n, nd, l⟩ := q
    refine ⟨a, rfl, ⟨vs, SqL.of h⟩, k _ (fun F H => Sub F1 F ∧ H a = some (.lst vs) ∧ F a = none) F1 H1 ys x1 ⟨Sub.refl, h, n⟩ (fun F H ⟨s0, hr, _⟩ x0 => walkL l F H ⟨s0, SqL.of hr⟩ x0) (fun F H F' H' ⟨s0, hr, hn⟩ y => ?_) p1⟩
    obtain ⟨h', n'⟩ := y.keepN hr hn nd
    exact ⟨s0.trans y.fs, h', n'⟩
  | _ => cases e
theorem di_tup (he : DE X G W e we) : DI X G W true tg e (wiT we) := PI.imp (pi_tup he) fun σ H R ⟨F, δ, P, PX, S, p, k, xk⟩ => by
  refine ⟨F, δ, _, PX, S, p, fun v F1 H1 r x1 q ⟨xs, e, p1⟩ => ?_, xk⟩
  obtain ⟨a, vs, rfl, h, l⟩ := q.tuple x1.le e
  refine ⟨a, rfl, ⟨vs, .inl (.inl (x1.le _ _ h))⟩, k _ (fun F H => Sub F1 F ∧ F a = some (.tup vs) ∧ Sub F H) F1 H1 xs x1 ⟨Sub.refl, h, x1.le⟩ (fun F H ⟨s0, hr, le⟩ x0 => walkT l F H ⟨s0, .inl (.inl (le _ _ hr))⟩ x0) ?_ p1⟩
  exact fun F H F' H' ⟨s0, hr, le⟩ s1 s2 => ⟨s0.trans s1, s1 _ _ hr, s2⟩
theorem signs_len {s : Str} : (signs s).length = s.cps.size := by unfold signs; simp
theorem di_str (he : DE X G W e we) : DI X G W true tg e (wiS we) := PI.imp (pi_str he) fun σ H R ⟨F, δ, P, PX, S, p, k, xk⟩ => by
  refine ⟨F, δ, _, PX, S, p, fun v F1 H1 r x1 q ⟨s, e, p1⟩ => ?_, xk⟩
  subst e
  cases q
  refine ⟨s, rfl, k _ (fun _ _ => True) F1 H1 _ x1 trivial (fun F H _ x0 => ⟨fun i hi => ?_, ?_, fun i x H' d e y => ?_⟩) (fun _ _ _ _ _ _ _ => trivial) p1⟩
  · show i < s.cps.size
    rw [← signs_len]; exact hi
  · show s.cps.size ≤ (signs s).length
    rw [signs_len]; exact Nat.le_refl _
  · obtain ⟨rfl, c, hc, rfl⟩ := y
    unfold signs at e
    rw [List.getElem?_map] at e
    have hc' : s.cps.toList[i]? = some c := by simpa using hc
    rw [hc'] at e
    cases e
    exact ⟨F, x0, .str _⟩
end
end
end DW
set_option Elab.async false
set_option linter.all false
set_option maxRecDepth 100000
set_option maxHeartbeats 4000000
namespace DW
open PySem PySem.Spec L2

section
variable {K : PySem.W.Frag} {G : Gd} {F F1 F2 H H1 H2 : Hp} {σ : L2.St} {δ : DEnv}
variable {X : Cx} {W : WX} {st : Bool} {tg e a b c : Expr} {es rest : List Expr} {we wa wb wc : WE'} {wt wu : WT} {waa : WA} {pos p : Pos}

/-! ### ranges, enumerate -/
def intsD (lo : Int) (n : Nat) : List D := (List.range n).map fun i => .int (lo + (i : Nat))
theorem intsD_len {lo : Int} {n : Nat} : (intsD lo n).length = n := by unfold intsD; simp
theorem intsD_at {lo : Int} {n i : Nat} {d : D} (e : (intsD lo n)[i]? = some d) : d = .int (lo + (i : Nat)) := by
  unfold intsD at e
  rw [List.getElem?_map] at e
  cases q : (List.range n)[i]? with
  | none => rw [q] at e; cases e
  | some j =>
    rw [q] at e
    have : j = i := by
      have := List.getElem?_eq_some_iff.mp q
      obtain ⟨h, e2⟩ := this
      rw [List.getElem_range] at e2
      exact e2.symm
    subst this
    exact (Option.some.inj e).symm
theorem walkR {w : Option Dw} {lo : Int} {n : Nat} : DWalk K w (fun _ _ => True) (Itr lo n) (intsD lo n) := by
  intro F H _ x0
  refine ⟨fun i hi => by rw [intsD_len] at hi; exact hi, by show n ≤ _; rw [intsD_len]; exact Nat.le_refl _, fun i x H' d e y => ?_⟩
  obtain ⟨rfl, rfl⟩ := y
  rw [intsD_at e]
  exact ⟨F, x0, .int _⟩
def wiR1 (wa : WA) : WI := fun δ P PX => wa δ (fun rs => ∃ j : Int, rs = [.im (.int j)] ∧ -(2 ^ 62) ≤ j ∧ j < 2 ^ 62 ∧ P (intsD 0 j.toNat)) PX
def wiR2 (wa : WA) : WI := fun δ P PX => wa δ (fun rs => ∃ i j : Int, rs = [.im (.int i), .im (.int j)] ∧ (-(2 ^ 62) ≤ i ∧ i < 2 ^ 62 ∧ -(2 ^ 62) ≤ j ∧ j < 2 ^ 62) ∧ P (intsD i (j - i).toNat)) PX
theorem stT {w : Option Dw} {s : Bool} : StC w s fun _ _ => True := by
  unfold StC
  cases s with
  | true => exact fun _ _ _ _ _ _ _ => trivial
  | false => exact fun _ _ _ _ _ _ => trivial
theorem di_range1 (hg : Gl X "range") (hm : X.mg "range" = none) (ha : DA X G W [a] waa) (hs : starEach [a] X.env = [(false, eval a X.env)] := by rfl) : DI X G W st tg (.Call (.Name "range" p) [a] [] pos) (wiR1 waa) :=
  PI.imp (pi_range1 hg hm ha hs) fun σ H R ⟨F, δ, P, PX, S, q, k, xk⟩ => by
    refine ⟨F, δ, _, PX, S, q, fun vs F1 H1 rs x1 q1 ⟨j, e, h1, h2, p1⟩ => ?_, xk⟩
    subst e
    cases q1 with
    | cons r t =>
      cases t; cases r
      exact ⟨j, rfl, h1, h2, k _ _ F1 H1 _ x1 trivial walkR stT p1⟩
theorem di_range2 (hg : Gl X "range") (hm : X.mg "range" = none) (ha : DA X G W [a, b] waa) (hs : starEach [a, b] X.env = [(false, eval a X.env), (false, eval b X.env)] := by rfl) (hs2 : starEach [b] X.env = [(false, eval b X.env)] := by rfl) :
    DI X G W st tg (.Call (.Name "range" p) [a, b] [] pos) (wiR2 waa) :=
  PI.imp (pi_range2 hg hm ha hs hs2) fun σ H R ⟨F, δ, P, PX, S, q, k, xk⟩ => by
    refine ⟨F, δ, _, PX, S, q, fun vs F1 H1 rs x1 q1 ⟨i, j, e, h, p1⟩ => ?_, xk⟩
    subst e
    cases q1 with
    | cons r t =>
      cases t with
      | cons r2 t2 =>
        cases t2; cases r; cases r2
        exact ⟨i, j, rfl, h, k _ _ F1 H1 _ x1 trivial walkR stT p1⟩
/-- the pairs of enumerate -/
def enums (xs : List D) : List D := (List.range xs.length).map fun i => .tuple [.int (i : Nat), xs.getD i .none]
theorem enums_len {xs : List D} : (enums xs).length = xs.length := by unfold enums; simp
theorem enums_at {xs : List D} {i : Nat} {d : D} (e : (enums xs)[i]? = some d) : ∃ y, xs[i]? = some y ∧ d = .tuple [.int (i : Nat), y] := by
  unfold enums at e
  rw [List.getElem?_map] at e
  cases q : (List.range xs.length)[i]? with
  | none => rw [q] at e; cases e
  | some j =>
    rw [q] at e
    obtain ⟨h, e2⟩ := List.getElem?_eq_some_iff.mp q
    rw [List.getElem_range] at e2
    subst e2
    rw [List.length_range] at h
    refine ⟨xs[i], List.getElem?_eq_getElem h, ?_⟩
    rw [← Option.some.inj e]
    simp [List.getD_eq_getElem?_getD, h]
theorem walkE {w : Option Dw} {a : Addr} {vs : List V} {xs : List D} {F0 : Hp} (l : RepL K F0 vs xs) : DWalk K w (fun F H => Sub F0 F ∧ SqL K H a vs) (Ite K a) (enums xs) := by
  intro F H ⟨s0, h⟩ x0
  refine ⟨fun i hi => ?_, ⟨vs, h, by rw [RepL.length l, enums_len]; exact Nat.le_refl _⟩, fun i x H' d e y => ?_⟩
  · have hi' : i < vs.length := by rw [RepL.length l, ← enums_len]; exact hi
    exact ⟨vs, vs[i], h, List.getElem?_eq_getElem hi'⟩
  · obtain ⟨T, z, rfl, hT, rfl, y⟩ := y
    obtain ⟨dy, ey, rfl⟩ := enums_at e
    obtain ⟨v, e1, rv⟩ := RepL.get l ey
    have e2 := y vs h
    rw [e1] at e2
    cases e2
    have x1 := x0.laid (u := .tup [.int (i : Nat), z]) hT
    exact ⟨_, x1, .tup upd_same (.cons (.int _) (.cons (RepD.mono (s0.trans x1.fs) rv) .nil))⟩
def wiE (wa : WA) : WI := fun δ P PX => wa δ (fun rs => ∃ r xs, rs = [r] ∧ r.dat = some (.list xs) ∧ P (enums xs)) PX
theorem di_enum {elts : List Expr} {kk : Nat} {tpos : Pos} (hg : Gl X "enumerate") (hm : X.mg "enumerate" = none) (ha : DA X G W [e] waa) (hs : starEach [e] X.env = [(false, eval e X.env)] := by rfl) :
    DI X G W true (.Tuple elts kk tpos) (.Call (.Name "enumerate" p) [e] [] pos) (wiE waa) :=
  PI.imp (pi_enum hg hm ha hs) fun σ H R ⟨F, δ, P, PX, S, q, k, xk⟩ => by
    refine ⟨F, δ, _, PX, S, q, fun vs F1 H1 rs x1 q1 ⟨r, xs, e, ed, p1⟩ => ?_, xk⟩
    subst e
    cases q1 with
    | cons rr t =>
      cases t
      obtain ⟨F2, x2, _, rd⟩ := rr.freeze x1 ed
      cases rd with
      | lst h l =>
        rename_i a' vs'
        refine ⟨a', vs', rfl, .inl (.inl (x2.le _ _ h)), k _ (fun F H => Sub F2 F ∧ F a' = some (.lst vs') ∧ Sub F H) F2 H1 _ x2 ⟨Sub.refl, h, x2.le⟩ (fun F H ⟨s0, hr, le⟩ x0 => walkE l F H ⟨s0, .inl (.inl (le _ _ hr))⟩ x0) ?_ p1⟩
        exact fun F H F' H' ⟨s0, hr, le⟩ s1 s2 => ⟨s0.trans s1, s1 _ _ hr, s2⟩

/-! ### tests -/
def wtAnd (t u : WT) : WT := fun δ P PX => t δ (fun b => if b = true then u δ P PX else P false) PX
def wtOr (t u : WT) : WT := fun δ P PX => t δ (fun b => if b = true then P true else u δ P PX) PX
def wtNot (t : WT) : WT := fun δ P PX => t δ (fun b => P (!b)) PX
abbrev DW_ (X : Cx) (G : Gd) (W : WX) (e : Expr) (wt : WT) : Prop := PW X e (dTT X.K G W wt)
theorem PW.imp {X : Cx} {e : Expr} {t t' : TT} (h : PW X e t) (i : ∀ σ H Q, t' σ H Q → t σ H Q) : PW X e t' := ⟨fun wh pins s σ H Q I q => h.run wh pins s σ H Q I (i σ H Q q)⟩
theorem dtt_next {wt : WT} {P : Bool → Prop} {PX : DX → Prop} {Q : Bool → Hp → Prop} (S : RepS K G F H σ δ) (x : Ext G.w F H F1 H1) (xk : xok K G.w W F H σ PX) (h : wt δ P PX)
    (k : ∀ v F' H', Ext G.w F1 H1 F' H' → P v → Q v H') : dTT K G W wt σ H1 Q := ⟨F1, δ, P, PX, S.to x, h, k, xk.to x⟩
theorem dw_and1 (ha : DT X G W a wt) : DW_ X G W (.BoolOp .And [a] pos) wt := pw_and1 ha
theorem dw_or1 (ha : DT X G W a wt) : DW_ X G W (.BoolOp .Or [a] pos) wt := pw_or1 ha
theorem dw_and (ha : DT X G W a wt) (hb : DW_ X G W (.BoolOp .And (b :: rest) pos) wu) : DW_ X G W (.BoolOp .And (a :: b :: rest) pos) (wtAnd wt wu) :=
  PW.imp (pw_and ha hb) fun σ H Q ⟨F, δ, P, PX, S, q, k, xk⟩ => by
    refine ⟨F, δ, _, PX, S, q, fun c F1 H1 x1 p1 => ?_, xk⟩
    cases c with
    | true => exact dtt_next S x1 xk p1 fun v F' H' x2 p2 => k v F' H' (x1.trans x2) p2
    | false => exact k false F1 H1 x1 p1
theorem dw_or (ha : DT X G W a wt) (hb : DW_ X G W (.BoolOp .Or (b :: rest) pos) wu) : DW_ X G W (.BoolOp .Or (a :: b :: rest) pos) (wtOr wt wu) :=
  PW.imp (pw_or ha hb) fun σ H Q ⟨F, δ, P, PX, S, q, k, xk⟩ => by
    refine ⟨F, δ, _, PX, S, q, fun c F1 H1 x1 p1 => ?_, xk⟩
    cases c with
    | true => exact k true F1 H1 x1 p1
    | false => exact dtt_next S x1 xk p1 fun v F' H' x2 p2 => k v F' H' (x1.trans x2) p2
theorem dt_w (h : DW_ X G W e wt) : DT X G W e wt := h.pt
theorem dt_not (ha : DT X G W a wt) : DT X G W (.UnaryOp .Not a pos) (wtNot wt) :=
  PT.imp (pt_not ha) fun σ H Q ⟨F, δ, P, PX, S, q, k, xk⟩ => ⟨F, δ, _, PX, S, q, fun c F1 H1 x1 p1 => k (!c) F1 H1 x1 p1, xk⟩
/-- .. as values -/
def wVand (wa wb : WE') : WE' := fun δ P PX => wa δ (fun r => ∃ b, r = .im (.bool b) ∧ if b = true then wb δ P PX else P (.im (.bool false))) PX
def wVor (wa wb : WE') : WE' := fun δ P PX => wa δ (fun r => ∃ b, r = .im (.bool b) ∧ if b = true then P (.im (.bool true)) else wb δ P PX) PX
def wVnot (wa : WE') : WE' := fun δ P PX => wa δ (fun r => ∃ b, r = .im (.bool b) ∧ P (.im (.bool (!b)))) PX
theorem de_one {op} (h : DE X G W a wa) : DE X G W (.BoolOp op [a] pos) wa := pe_one h
theorem de_and (ha : DE X G W a wa) (hb : DE X G W (.BoolOp .And (b :: rest) pos) wb) : DE X G W (.BoolOp .And (a :: b :: rest) pos) (wVand wa wb) :=
  PE.imp (pe_and ha hb) fun σ H Q ⟨F, δ, P, PX, S, q, k, xk⟩ => by
    refine ⟨F, δ, _, PX, S, q, fun v F1 H1 r x1 q1 ⟨c, e, p1⟩ => ?_, xk⟩
    subst e
    cases q1
    refine ⟨c, rfl, ?_⟩
    cases c with
    | true => exact dT.next S x1 xk p1 fun v F' H' r x2 q2 p2 => k v F' H' r (x1.trans x2) (q2.back x1) p2
    | false => exact k (.bl false) F1 H1 (.im _) x1 (.bl _) p1
theorem de_or (ha : DE X G W a wa) (hb : DE X G W (.BoolOp .Or (b :: rest) pos) wb) : DE X G W (.BoolOp .Or (a :: b :: rest) pos) (wVor wa wb) :=
  PE.imp (pe_or ha hb) fun σ H Q ⟨F, δ, P, PX, S, q, k, xk⟩ => by
    refine ⟨F, δ, _, PX, S, q, fun v F1 H1 r x1 q1 ⟨c, e, p1⟩ => ?_, xk⟩
    subst e
    cases q1
    refine ⟨c, rfl, ?_⟩
    cases c with
    | true => exact k (.bl true) F1 H1 (.im _) x1 (.bl _) p1
    | false => exact dT.next S x1 xk p1 fun v F' H' r x2 q2 p2 => k v F' H' r (x1.trans x2) (q2.back x1) p2
theorem de_not (ha : DE X G W a wa) : DE X G W (.UnaryOp .Not a pos) (wVnot wa) :=
  PE.imp (pe_not ha) fun σ H Q ⟨F, δ, P, PX, S, q, k, xk⟩ => by
    refine ⟨F, δ, _, PX, S, q, fun v F1 H1 r x1 q1 ⟨c, e, p1⟩ => ?_, xk⟩
    subst e
    cases q1
    exact ⟨c, rfl, k _ F1 H1 (.im _) x1 (.bl _) p1⟩
def wIf (t : WT) (wa wb : WE') : WE' := fun δ P PX => t δ (fun b => if b = true then wa δ P PX else wb δ P PX) PX
theorem de_if (hc : DT X G W c wt) (ha : DE X G W a wa) (hb : DE X G W b wb) : DE X G W (.IfExp c a b pos) (wIf wt wa wb) :=
  PE.imp (pe_ifExp hc ha hb) fun σ H Q ⟨F, δ, P, PX, S, q, k, xk⟩ => by
    refine ⟨F, δ, _, PX, S, q, fun c F1 H1 x1 p1 => ?_, xk⟩
    cases c with
    | true => exact dT.next S x1 xk p1 fun v F' H' r x2 q2 p2 => k v F' H' r (x1.trans x2) (q2.back x1) p2
    | false => exact dT.next S x1 xk p1 fun v F' H' r x2 q2 p2 => k v F' H' r (x1.trans x2) (q2.back x1) p2
/-- a chain of two comparisons -/
def wChain (k1 k2 : KO) (wa wb wc : WE') : WE' := fun δ P PX => wa δ (fun r1 => wb δ (fun r2 => k1 r1 r2 fun r => ∃ b, r = .im (.bool b) ∧ if b = true then wc δ (fun r3 => k2 r2 r3 P) PX else P (.im (.bool false))) PX) PX
theorem chain_of {r r' : R2} {k1 k2 : KO} (h1 : OpD K r k1) (h2 : OpD K r' k2) {σ : L2.St} {H : Hp} {Q : VK} (h : dT K G W (wChain k1 k2 wa wb wc) σ H Q) : tChain r r' (dT K G W wa) (dT K G W wb) (dT K G W wc) σ H Q := by
  obtain ⟨F, δ, P, PX, S, q, k, xk⟩ := h
  refine ⟨F, δ, _, PX, S, q, fun x F1 H1 r1 x1 q1 p1 => ?_, xk⟩
  refine dT.next S x1 xk p1 fun y F2 H2 r2 x2 q2 p2 => ?_
  refine h1 G.w H F2 H2 x y r1 r2 _ _ x2.stay (q1.to x2) (q2.back x1) p2 fun v F3 H3 r3 x3 q3 ⟨b, e, p3⟩ => ?_
  subst e
  cases q3
  refine ⟨b, rfl, ?_⟩
  have x123 := (x1.trans x2).trans x3
  cases b with
  | false => exact k _ F3 H3 (.im _) x123 (.bl _) p3
  | true =>
    refine dT.next S x123 xk p3 fun z F4 H4 r4 x4 q4 p4 => ?_
    refine h2 G.w H F4 H4 y z r2 r4 P Q x4.stay ((q2.back x1).to (x3.trans x4)) (q4.back x123) p4 fun v F' H' r x5 q5 p5 => ?_
    exact k v F' H' r ((x123.trans x4).trans x5) (q5.back (x123.trans x4)) p5
theorem de_chain {op op' : CmpOp} {r r' : R2} {k1 k2 : KO} (ho : OpR X (compareOp op) r) (ho' : OpR X (compareOp op') r') (h1 : OpD X.K r k1) (h2 : OpD X.K r' k2) (ha : DE X G W a wa) (hb : DE X G W b wb) (hc : DE X G W c wc)
    (hm : lastMarks [op, op'] [b, c] = false := by with_unfolding_all rfl) : DE X G W (.Compare a [op, op'] [b, c] pos) (wChain k1 k2 wa wb wc) := PE.imp (pe_chain ho ho' ha hb hc hm) fun _ _ _ h => chain_of h1 h2 h
theorem dt_chain {op op' : CmpOp} {r r' : R2} {k1 k2 : KO} (ho : OpR X (compareOp op) r) (ho' : OpR X (compareOp op') r') (h1 : OpD X.K r k1) (h2 : OpD X.K r' k2) (ha : DE X G W a wa) (hb : DE X G W b wb) (hc : DE X G W c wc)
    (hm : lastMarks [op, op'] [b, c] = false := by with_unfolding_all rfl) : DT X G W (.Compare a [op, op'] [b, c] pos) (wB (wChain k1 k2 wa wb wc)) := PT.imp (pt_chain ho ho' ha hb hc hm) fun _ _ _ h => chain_of h1 h2 (tB_of h)
/-- by truth -/
def truR : R → Option Bool
  | .im .none => some false
  | .im (.bool b) => some b
  | .im (.int i) => some (i != 0)
  | .im (.list xs) => some (!xs.isEmpty)
  | .im (.tuple xs) => some (!xs.isEmpty)
  | .ol xs => some (!xs.isEmpty)
  | .bl xs => some (!xs.isEmpty)
  | _ => none
theorem RepL.empty {vs : List V} {ds : List D} (l : RepL K F vs ds) : vs.isEmpty = ds.isEmpty := by cases l <;> rfl
theorem RepR.tru {w : Option Dw} {v : V} {r : R} {bb : Bool} (le : Sub F1 H1) (q : RepR K w H F1 H1 v r) (e : truR r = some bb) : TruV K v H1 bb := by
  have lst : ∀ {xs : List D}, r.lst = some xs → bb = !xs.isEmpty → TruV K v H1 bb := fun {xs} e1 e2 => by
    obtain ⟨a, us, rfl, ha, la⟩ := q.list le e1
    exact .inl ⟨us, ha, by rw [RepL.empty la]; exact e2⟩
  cases r with
  | im d =>
    cases d with
    | none => cases q; exact (Option.some.inj e).symm
    | bool b => cases q; exact (Option.some.inj e).symm
    | int i => cases q; exact (Option.some.inj e).symm
    | list xs => exact lst rfl (Option.some.inj e).symm
    | tuple xs =>
      obtain ⟨a, us, rfl, ha, la⟩ := q.tuple le (xs := xs) rfl
      exact .inr (.inl ⟨us, .inl (.inl (le _ _ ha)), by rw [RepL.empty la]; exact (Option.some.inj e).symm⟩)
    | _ => cases e
  | ol xs => exact lst rfl (Option.some.inj e).symm
  | bl xs => exact lst rfl (Option.some.inj e).symm
  | _ => cases e
def wTru (we : WE') : WT := fun δ P PX => we δ (fun r => ∃ b, truR r = some b ∧ P b) PX
theorem dt_tru (ha : DE X G W a wa) (he : ∀ whole, isTrue a X.env whole = (do let v ← whole; standAt a.pos; holding [v] (truthy v)) := by intro _; rfl) : DT X G W a (wTru wa) :=
  PT.imp (pt_truth ha he) fun σ H Q ⟨F, δ, P, PX, S, q, k, xk⟩ => by
    refine ⟨F, δ, _, PX, S, q, fun v F1 H1 r x1 q1 ⟨b, e, p1⟩ => ⟨b, q1.tru x1.le e, k b F1 H1 x1 p1⟩, xk⟩
end
end DW
set_option Elab.async false
set_option linter.all false
set_option maxRecDepth 100000
set_option maxHeartbeats 4000000
namespace DW
open PySem PySem.Spec L2

abbrev wTrue : WX := fun _ _ _ _ => True
section
variable {K : PySem.W.Frag} {w : Option Dw} {G : Gd} {F F1 F2 H H1 H2 : Hp} {σ : L2.St} {δ : DEnv}
variable {X : Cx} {W : WX} {st : Bool} {tg iter e a b c elt : Expr} {es rest : List Expr} {we wa wb wc : WE'} {wt wu : WT} {waa : WA} {pos p : Pos}
theorem xok_true {PX : DX → Prop} : xok K w wTrue F H σ PX := fun _ _ _ _ _ _ _ _ => trivial

/-! ### forgetting slots -/
def wipeD (δ : DEnv) : List Nat → DEnv
  | [] => δ
  | v :: vs => (wipeD δ vs).set v none
theorem RepS.drop (S : RepS K G F H σ δ) (i : Nat) : RepS K G F H (σ.set i none) (δ.set i none) := by
  refine ⟨S.ext, by rw [List.length_set, List.length_set]; exact S.len, fun j t e => ?_, fun j t p e o e2 => ?_, fun j k t u p ne e1 e2 o1 o2 e3 e4 => ?_⟩
  · by_cases h : j = i
    · subst h
      rw [List.getElem?_set] at e
      split at e
      · split at e <;> cases e
      · exact absurd rfl (by assumption)
    · rw [List.getElem?_set_ne (Ne.symm h)] at e ⊢
      exact S.slot j t e
  · by_cases h : j = i
    · subst h
      rw [List.getElem?_set] at e
      split at e
      · split at e <;> cases e
      · exact absurd rfl (by assumption)
    · rw [List.getElem?_set_ne (Ne.symm h)] at e e2
      exact S.fresh j t p e o e2
  · by_cases h : j = i
    · subst h
      rw [List.getElem?_set] at e1
      split at e1
      · split at e1 <;> cases e1
      · exact absurd rfl (by assumption)
    · by_cases h' : k = i
      · subst h'
        rw [List.getElem?_set] at e2
        split at e2
        · split at e2 <;> cases e2
        · exact absurd rfl (by assumption)
      · rw [List.getElem?_set_ne (Ne.symm h)] at e1 e3
        rw [List.getElem?_set_ne (Ne.symm h')] at e2 e4
        exact S.apart j k t u p ne e1 e2 o1 o2 e3 e4
theorem RepS.wipe (S : RepS K G F H σ δ) : ∀ vs : List Nat, RepS K G F H (L2.wipe σ vs) (wipeD δ vs)
  | [] => S
  | v :: vs => (RepS.wipe S vs).drop v
theorem wipe_in {σ : L2.St} {j : Nat} : ∀ {vs : List Nat}, j ∈ vs → j < σ.length → (L2.wipe σ vs)[j]? = some none
  | v :: vs, hj, hl => by
    unfold L2.wipe
    by_cases h : v = j
    · subst h
      exact List.getElem?_set_self (by rw [wipe_length]; exact hl)
    · rw [List.getElem?_set_ne h]
      exact wipe_in ((List.mem_cons.mp hj).resolve_left (Ne.symm h)) hl
theorem wipe_only {ts vs : List Nat} {σ σ2 : L2.St} (o : Only ts (L2.wipe σ vs) σ2) (h : ∀ t ∈ ts, t ∈ vs) : L2.wipe σ2 vs = L2.wipe σ vs := by
  apply List.ext_getElem?
  intro j
  have hl : σ2.length = σ.length := by rw [o.1, wipe_length]
  by_cases hj : j ∈ vs
  · by_cases hz : j < σ.length
    · rw [wipe_in hj hz, wipe_in hj (by rw [hl]; exact hz)]
    · rw [List.getElem?_eq_none (by rw [wipe_length]; omega), List.getElem?_eq_none (by rw [wipe_length]; omega)]
  · rw [wipe_out hj, o.2 j fun z => hj (h j z)]

/-! ### list comprehensions -/
def lcGo (wg : WG) (wt : WT) (we : WE') (P : List D → Prop) (δ0 : DEnv) : List D → List D → Prop
  | [], acc => P acc
  | d :: ds, acc => wg d δ0 fun δ1 => wt δ1 (fun b => if b = true then we δ1 (fun r => ∃ d', r.dat = some d' ∧ acc.length < sizeLine ∧ lcGo wg wt we P δ0 ds (acc ++ [d'])) (fun _ => False) else lcGo wg wt we P δ0 ds acc) (fun _ => False)
def wLc (wi : WI) (wg : WG) (wt : WT) (we : WE') (vs : List Nat) : WE' := fun δ P PX => wi δ (fun items => lcGo wg wt we (fun acc => P (.ol acc)) (wipeD δ vs) items []) PX
def wtYes : WT := fun _ P _ => P true
/-- a list of one's own is written -/
theorem Ext.write (x : Ext w F H F1 H1) {p : Addr} {u u' : HO} (h0 : H p = Option.none) (h : H1 p = some u') (n : F1 p = Option.none) (nd : ∀ d, w = some d → d.a ≠ p) : Ext w F H F1 (upd H1 p u) where
  fs := x.fs
  le := fun a o e => by rw [upd_ne (fun z => by subst z; rw [n] at e; cases e)]; exact x.le a o e
  hs := fun a o e d => by rw [upd_ne (fun z => by subst z; rw [h0] at e; cases e)]; exact x.hs a o e d
  new := x.new
  dr := fun d e => by
    have o := x.dr d e
    obtain ⟨i, r, c, z, q⟩ := o.at_
    exact ⟨o.free, ⟨i, r, c, by rw [upd_ne (nd d e)]; exact z, q⟩, o.copy, o.few, o.big⟩
theorem lc_of {wi : WI} {wg : WG} {ts vs : List Nat} {tt : TT} {te : TE} (hts : ∀ t ∈ ts, t ∈ vs) (ht : ∀ σ H Q, dTT K G wTrue wt σ H Q → tt σ H Q) (he : ∀ σ H Q, dT K G wTrue we σ H Q → te σ H Q)
    {σ : L2.St} {H : Hp} {Q : VK} (h : dT K G W (wLc wi wg wt we vs) σ H Q) : tLc (dTI K G W st wi) (dGT K G ts wg) tt te vs σ H Q := by
  obtain ⟨F, δ, P, PX, S, q, k, xk⟩ := h
  refine ⟨F, δ, _, PX, S, q, fun J C F1 H1 items x1 c1 dw stc p1 => fun D hD => ?_, xk⟩
  have x1' : Ext G.w F1 H1 F1 (upd H1 D (.lst [])) := x1.stay.own hD
  have nd : ∀ d, G.w = some d → d.a ≠ D := fun d e z => by
    obtain ⟨i, r, c, h, _⟩ := (x1.dr d e).at_
    rw [z, hD] at h; cases h
  refine ⟨fun i m H => m = items.length - i ∧ i ≤ items.length ∧ ∃ F avs acc, Ext G.w F1 H1 F H ∧ H D = some (.lst avs) ∧ F D = none ∧ RepL K F avs acc ∧ lcGo wg wt we (fun acc => P (.ol acc)) (wipeD δ vs) (items.drop i) acc,
    ⟨_, rfl, Nat.zero_le _, F1, [], [], x1', upd_same, x1.le.none hD, .nil, p1⟩, ?_⟩
  rintro i m H ⟨rfl, hi, F, avs, acc, x2, hDl, hDf, la, go⟩
  obtain ⟨w1, w2, w3⟩ := dw F H (stc.ext c1 x2) x2.stay
  by_cases hlt : i < items.length
  · refine .inr ⟨w1 i hlt, fun H' => i + 1 ≤ items.length ∧ ∃ F avs acc, Ext G.w F1 H1 F H' ∧ H' D = some (.lst avs) ∧ F D = none ∧ RepL K F avs acc ∧ lcGo wg wt we (fun acc => P (.ol acc)) (wipeD δ vs) (items.drop (i + 1)) acc,
      fun H' n => ⟨items.length - (i + 1), by omega, rfl, n⟩, fun x H' y => ?_⟩
    have hd : items[i]? = some items[i] := List.getElem?_eq_getElem hlt
    have hdrop : items.drop i = items[i] :: items.drop (i + 1) := List.drop_eq_getElem_cons hlt
    rw [hdrop] at go
    obtain ⟨F', x3, rd⟩ := w3 i x H' _ hd y
    have S' : RepS K G F' H' (L2.wipe σ vs) (wipeD δ vs) := (S.to (x1.trans (x2.trans x3))).wipe vs
    refine ⟨F', wipeD δ vs, _, _, S', rd, go, fun σ2 δ2 o2 S2 p2 => ⟨wipe_only o2 hts, ?_⟩⟩
    refine ht _ _ _ ⟨F', δ2, _, _, S2, p2, fun b F3 H3 x4 p3 => ?_, xok_true⟩
    cases b with
    | false =>
      rw [if_neg Bool.false_ne_true] at p3 ⊢
      have x5 := x3.trans x4
      obtain ⟨h', n'⟩ := x5.keepN hDl hDf nd
      exact ⟨hlt, F3, avs, acc, x2.trans x5, h', n', RepL.mono x5.fs la, p3⟩
    | true =>
      rw [if_pos rfl] at p3 ⊢
      refine he _ _ _ ⟨F3, δ2, _, _, S2.to x4, p3, fun yv F4 H4 r x5 q5 ⟨d', er, hz, p4⟩ => ?_, xok_true⟩
      obtain ⟨F5, x6, _, rd'⟩ := q5.freeze x5 er
      have x7 := (x3.trans x4).trans x6
      obtain ⟨h', n'⟩ := x7.keepN hDl hDf nd
      refine ⟨avs, h', by rw [RepL.length la]; exact hz, hlt, F5, avs ++ [yv], acc ++ [d'], (x2.trans x7).write hD h' n' nd, upd_same, n', RepL.append (RepL.mono x7.fs la) (.cons rd' .nil), p4⟩
  · have hn : i = items.length := by omega
    subst hn
    rw [List.drop_length] at go
    refine .inl ⟨w2, k _ F H (.ol acc) (x1.trans x2) ⟨D, avs, rfl, x1.none hD, hDl, hDf, nd, la⟩ go⟩
theorem de_lc {scope : Scope} {own : List (Str × Nat)} {wi : WI} {wg : WG} {ts : List Nat} (hc : X.calm = true) (hN : X.N.Nodup) (hi : DI X G W st tg iter wi) (ok : BlkOk X.N X.env.scope scope own)
    (hg : ∀ (s : Shared) (H : Hp) (C : Addr) (cl : List (Str × Addr)) (fp : List Addr), DG (X.blk s H scope (compEnvC scope cl C X.env) fp) G ts tg wg)
    (he : ∀ (s : Shared) (H : Hp) (C : Addr) (cl : List (Str × Addr)) (fp : List Addr), DE (X.blk s H scope (compEnvC scope cl C X.env) fp) G wTrue elt we)
    (hts : ∀ t ∈ ts, t ∈ own.map (·.2) := by decide) (hs : ∀ x, foldedSetIterable iter X.env x = pure x := by intro _; rfl) : DE X G W (.ListComp elt [⟨tg, iter, [], 0⟩] scope pos) (wLc wi wg wtYes we (own.map (·.2))) :=
  PE.imp (pe_lc hc hN hi ok hg (fun _ _ _ _ _ => pts_nil) he hs) fun σ H Q h => lc_of hts (fun σ H Q ⟨F, δ, P, PX, S, q, k, xk⟩ => k true F H S.ext.stay q) (fun _ _ _ h => h) h
theorem de_lcIf {scope : Scope} {own : List (Str × Nat)} {wi : WI} {wg : WG} {ts : List Nat} (hc : X.calm = true) (hN : X.N.Nodup) (hi : DI X G W st tg iter wi) (ok : BlkOk X.N X.env.scope scope own)
    (hg : ∀ (s : Shared) (H : Hp) (C : Addr) (cl : List (Str × Addr)) (fp : List Addr), DG (X.blk s H scope (compEnvC scope cl C X.env) fp) G ts tg wg)
    (ht : ∀ (s : Shared) (H : Hp) (C : Addr) (cl : List (Str × Addr)) (fp : List Addr), DT (X.blk s H scope (compEnvC scope cl C X.env) fp) G wTrue c wt)
    (he : ∀ (s : Shared) (H : Hp) (C : Addr) (cl : List (Str × Addr)) (fp : List Addr), DE (X.blk s H scope (compEnvC scope cl C X.env) fp) G wTrue elt we)
    (hts : ∀ t ∈ ts, t ∈ own.map (·.2) := by decide) (hs : ∀ x, foldedSetIterable iter X.env x = pure x := by intro _; rfl) : DE X G W (.ListComp elt [⟨tg, iter, [c], 0⟩] scope pos) (wLc wi wg wt we (own.map (·.2))) :=
  PE.imp (pe_lc hc hN hi ok hg (fun s H C cl fp => pts_one (ht s H C cl fp)) he hs) fun σ H Q h => lc_of hts (fun _ _ _ h => h) (fun _ _ _ h => h) h

/-! ### statements -/
structure DEnds where
  nx : DEnv → Prop
  rt : R → Prop
  bk : DEnv → Prop
  ct : DEnv → Prop
  ex : DX → Prop
abbrev WS := DEnds → DEnv → Prop
structure EndsOk (K : PySem.W.Frag) (G : Gd) (W : WX) (F : Hp) (E : DEnds) (D : Ends) : Prop where
  nx : ∀ σ' F' H' δ', Sub F F' → RepS K G F' H' σ' δ' → E.nx δ' → D.nx σ' H'
  bk : ∀ σ' F' H' δ', Sub F F' → RepS K G F' H' σ' δ' → E.bk δ' → D.bk σ' H'
  ct : ∀ σ' F' H' δ', Sub F F' → RepS K G F' H' σ' δ' → E.ct δ' → D.ct σ' H'
  rt : ∀ v F' H' r, Ext G.w G.F0 G.H0 F' H' → RepR K G.w G.H0 F' H' v r → E.rt r → D.rt v H'
  ex : ∀ x F' H' cls d σ', Ext G.w G.F0 G.H0 F' H' → RepX K F' H' x cls d → E.ex x → W cls d σ' H'
def dTS (K : PySem.W.Frag) (G : Gd) (W : WX) (ws : WS) : TS := fun D σ H => ∃ F δ E, RepS K G F H σ δ ∧ ws E δ ∧ EndsOk K G W F E D
abbrev DS (X : Cx) (G : Gd) (W : WX) (s : Stmt) (ws : WS) : Prop := PS X s (dTS X.K G W ws)
abbrev DSs (X : Cx) (G : Gd) (W : WX) (s : List Stmt) (ws : WS) : Prop := PSs X s (dTS X.K G W ws)
theorem PS.imp {X : Cx} {e : Stmt} {t t' : TS} (h : PS X e t) (i : ∀ σ H Q, t' σ H Q → t σ H Q) : PS X e t' := ⟨fun pins s σ H Q I q => h.run pins s σ H Q I (i Q σ H q)⟩
theorem PSs.imp {X : Cx} {e : List Stmt} {t t' : TS} (h : PSs X e t) (i : ∀ σ H Q, t' σ H Q → t σ H Q) : PSs X e t' := ⟨fun pins s σ H Q I q => h.run pins s σ H Q I (i Q σ H q)⟩
theorem EndsOk.sub {E : DEnds} {D : Ends} (k : EndsOk K G W F E D) (s : Sub F F1) : EndsOk K G W F1 E D :=
  ⟨fun σ' F' H' δ' z => k.nx σ' F' H' δ' (s.trans z), fun σ' F' H' δ' z => k.bk σ' F' H' δ' (s.trans z), fun σ' F' H' δ' z => k.ct σ' F' H' δ' (s.trans z), k.rt, k.ex⟩
theorem EndsOk.xok {E : DEnds} {D : Ends} (k : EndsOk K G W F1 E D) (S : RepS K G F H σ δ) : xok K G.w W F H σ E.ex := fun x F' H' cls d y r p => k.ex x F' H' cls d σ (S.ext.trans y) r p
def sNext : WS := fun E δ => E.nx δ
def sSeq (s t : WS) : WS := fun E δ => s { E with nx := fun δ' => t E δ' } δ
section
variable {s : Stmt} {ss body orelse : List Stmt} {ws wss : WS}
theorem ds_nil : DSs X G W [] sNext := PSs.imp pss_nil fun D σ H ⟨F, δ, E, S, p, k⟩ => k.nx σ F H δ Sub.refl S p
theorem ds_cons (h : DS X G W s ws) (hs : DSs X G W ss wss) : DSs X G W (s :: ss) (sSeq ws wss) := PSs.imp (pss_cons h hs) fun D σ H ⟨F, δ, E, S, p, k⟩ =>
  ⟨F, δ, _, S, p, fun σ' F' H' δ' z S' p' => ⟨F', δ', E, S', p', k.sub z⟩, k.bk, k.ct, k.rt, k.ex⟩
theorem ds_one (h : DS X G W s ws) : DSs X G W [s] ws := pss_one h
theorem ds_pass : DS X G W (.Pass pos) sNext := PS.imp ps_pass fun D σ H ⟨F, δ, E, S, p, k⟩ => k.nx σ F H δ Sub.refl S p
def sBreak : WS := fun E δ => E.bk δ
def sCont : WS := fun E δ => E.ct δ
theorem ds_break : DS X G W (.Break pos) sBreak := PS.imp ps_break fun D σ H ⟨F, δ, E, S, p, k⟩ => k.bk σ F H δ Sub.refl S p
theorem ds_continue : DS X G W (.Continue pos) sCont := PS.imp ps_continue fun D σ H ⟨F, δ, E, S, p, k⟩ => k.ct σ F H δ Sub.refl S p
def sIf (t : WT) (s1 s2 : WS) : WS := fun E δ => t δ (fun b => if b = true then s1 E δ else s2 E δ) E.ex
theorem ds_if (hc : DT X G W c wt) (ha : DSs X G W body ws) (hb : DSs X G W orelse wss) : DS X G W (.If c body orelse pos) (sIf wt ws wss) := PS.imp (ps_if hc ha hb) fun D σ H ⟨F, δ, E, S, p, k⟩ => by
  refine ⟨F, δ, _, _, S, p, fun b F1 H1 x1 p1 => ?_, k.xok S⟩
  cases b with
  | true => exact ⟨F1, δ, E, S.to x1, p1, k.sub x1.fs⟩
  | false => exact ⟨F1, δ, E, S.to x1, p1, k.sub x1.fs⟩
/-- x = e -/
def sSet (i : Nat) (we : WE') : WS := fun E δ => we δ (fun r => ∃ v, r.sv = some v ∧ E.nx (δ.set i (some v))) E.ex
theorem set_of {i : Nat} {D : Ends} {σ : L2.St} {H : Hp} (h : dTS K G W (sSet i we) D σ H) : tAsg (dT K G W we) (gName i) D σ H := by
  obtain ⟨F, δ, E, S, p, k⟩ := h
  exact ⟨F, δ, _, _, S, p, fun v F1 H1 r x1 q ⟨s, e, p1⟩ => k.nx _ F1 H1 _ x1.fs (S.put x1 q e) p1, k.xok S⟩
theorem ds_set {i : Nat} (h : PS X s (tAsg (dT X.K G W we) (gName i))) : DS X G W s (sSet i we) := PS.imp h fun D σ H h => set_of h
/-- x = y, y's own list goes over to x -/
def sMove (i j : Nat) : WS := fun E δ => ∃ s, δ[j]? = some (some s) ∧ s.owned = true ∧ i ≠ j ∧ i < δ.length ∧ E.nx ((δ.set j none).set i (some s))
/-- a target of data -/
def sAsg (we : WE') (wg : WG) : WS := fun E δ => we δ (fun r => ∃ d, r.dat = some d ∧ wg d δ E.nx) E.ex
theorem ds_asg {wg : WG} {ts : List Nat} (h : PS X s (tAsg (dT X.K G W we) (dGT X.K G ts wg))) : DS X G W s (sAsg we wg) := PS.imp h fun D σ H ⟨F, δ, E, S, p, k⟩ => by
  refine ⟨F, δ, _, _, S, p, fun v F1 H1 r x1 q ⟨d, e, p1⟩ => ?_, k.xok S⟩
  obtain ⟨F2, x2, _, rd⟩ := q.freeze x1 e
  exact ⟨F2, δ, d, _, S.to x2, rd, p1, fun σ' δ' _ S' p' => k.nx σ' F2 H1 δ' x2.fs S' p'⟩
/-- x op= e by an operation -/
def sAug (i : Nat) (kk : KO) (we : WE') : WS := fun E δ => ∃ s0, δ[i]? = some (some s0) ∧ we δ (fun r => kk s0.read r fun r' => ∃ v, r'.sv = some v ∧ E.nx (δ.set i (some v))) E.ex
theorem ds_aug {i : Nat} {r : R2} {kk : KO} (hk : OpD X.K r kk) (h : PS X s (tAug i (dT X.K G W we) r)) : DS X G W s (sAug i kk we) := PS.imp h fun D σ H ⟨F, δ, E, S, ⟨s0, e0, p⟩, k⟩ => by
  obtain ⟨v0, e1, r0⟩ := S.slot i s0 e0
  refine ⟨v0, e1, F, δ, _, _, S, p, fun v F1 H1 r1 x1 q p1 => ?_, k.xok S⟩
  refine hk G.w H F1 H1 v0 v _ r1 _ _ x1.stay (r0.read.to x1) q p1 fun z F2 H2 r2 x2 q2 ⟨sv, e2, p2⟩ => ?_
  exact k.nx _ F2 H2 _ (x1.trans x2).fs (S.put (x1.trans x2) (q2.back x1) e2) p2
/-- an expression is dropped -/
def sDrop (we : WE') : WS := fun E δ => we δ (fun _ => E.nx δ) E.ex
theorem ds_expr (h : PS X s (tDrop (dT X.K G W we))) : DS X G W s (sDrop we) := PS.imp h fun D σ H ⟨F, δ, E, S, p, k⟩ =>
  ⟨F, δ, _, _, S, p, fun v F1 H1 r x1 q p1 => k.nx σ F1 H1 δ x1.fs (S.to x1) p1, k.xok S⟩
/-- return e: what is borrowed is not handed back -/
def R.given : R → Bool
  | .bl _ => false
  | .bK _ => false
  | .bT _ => false
  | _ => true
def sRet (we : WE') : WS := fun E δ => we δ E.rt E.ex
theorem ds_ret (h : PS X s (tRet (dT X.K G W we))) : DS X G W s (sRet we) := PS.imp h fun D σ H ⟨F, δ, E, S, p, k⟩ =>
  ⟨F, δ, _, _, S, p, fun v F1 H1 r x1 q p1 => k.rt v F1 H1 r (S.ext.trans x1) (q.back S.ext) p1, k.xok S⟩
/-- return x, x a local's own list, dict -/
def sRetV (i : Nat) : WS := fun E δ => ∃ s, δ[i]? = some (some s) ∧ E.rt (match s with | .im d => .im d | .ol xs => .ol xs | .oK kvs => .oK kvs | .oT kvs => .oT kvs | .drw => .drw)
theorem ds_retV {i : Nat} (h : PS X s (tRet (tVar i))) : DS X G W s (sRetV i) := PS.imp h fun D σ H ⟨F, δ, E, S, ⟨s0, e0, p⟩, k⟩ => by
  obtain ⟨v0, e1, r0⟩ := S.slot i s0 e0
  refine ⟨v0, e1, k.rt v0 F H _ S.ext ?_ p⟩
  cases s0 with
  | im d => exact r0
  | ol xs => obtain ⟨p, vs, rfl, h, n, nd, l⟩ := r0; exact ⟨p, vs, rfl, S.fresh i _ p e0 rfl e1, h, n, nd, l⟩
  | oK xs => obtain ⟨p, vs, rfl, h, n, nd, l⟩ := r0; exact ⟨p, vs, rfl, S.fresh i _ p e0 rfl e1, h, n, nd, l⟩
  | oT xs => obtain ⟨p, vs, rfl, h, n, nd, l⟩ := r0; exact ⟨p, vs, rfl, S.fresh i _ p e0 rfl e1, h, n, nd, l⟩
  | drw => exact r0
/-- a ghost step: a local's own list is frozen ahead of a statement -/
def sFreeze (i : Nat) (ws : WS) : WS := fun E δ => ∃ xs, δ[i]? = some (some (.ol xs)) ∧ ws E (δ.set i (some (.im (.list xs))))
theorem RepS.freeze {i : Nat} {xs : List D} (S : RepS K G F H σ δ) (e : δ[i]? = some (some (.ol xs))) : ∃ F2, Sub F F2 ∧ RepS K G F2 H σ (δ.set i (some (.im (.list xs)))) := by
  obtain ⟨v0, e1, p, vs, rfl, h, n, nd, l⟩ := S.slot i _ e
  have h0 := S.fresh i _ p e rfl e1
  refine ⟨upd F p (.lst vs), upd_grow n, S.ext.freeze h0 h n nd, by rw [List.length_set]; exact S.len, fun j t ej => ?_, fun j t p' ej o e2 => ?_, fun j k t u p' ne ej ek o1 o2 e3 e4 => ?_⟩
  · by_cases hj : j = i
    · subst hj
      have hl : j < δ.length := (List.getElem?_eq_some_iff.mp e).1
      rw [List.getElem?_set_self hl] at ej
      cases ej
      exact ⟨_, e1, .lst upd_same (RepL.mono (upd_grow n) l)⟩
    · rw [List.getElem?_set_ne (Ne.symm hj)] at ej
      obtain ⟨v, e2, r⟩ := S.slot j t ej
      refine ⟨v, e2, ?_⟩
      have off : ∀ q, v = .ref q → t.owned = true → q ≠ p := fun q eq o z => by
        subst z
        rw [eq] at e2
        exact S.apart j i t _ q hj ej e o rfl e2 e1
      cases t with
      | im d => exact RepD.mono (upd_grow n) r
      | ol ys => obtain ⟨q, us, rfl, hq, nq, ndq, lq⟩ := r; exact ⟨q, us, rfl, hq, by rw [upd_ne (off q rfl rfl)]; exact nq, ndq, RepL.mono (upd_grow n) lq⟩
      | oK ys => obtain ⟨q, us, rfl, hq, nq, ndq, lq⟩ := r; exact ⟨q, us, rfl, hq, by rw [upd_ne (off q rfl rfl)]; exact nq, ndq, lq.mono (upd_grow n)⟩
      | oT ys => obtain ⟨q, us, rfl, hq, nq, ndq, lq⟩ := r; exact ⟨q, us, rfl, hq, by rw [upd_ne (off q rfl rfl)]; exact nq, ndq, lq.mono (upd_grow n)⟩
      | drw => exact r
  · by_cases hj : j = i
    · subst hj
      have hl : j < δ.length := (List.getElem?_eq_some_iff.mp e).1
      rw [List.getElem?_set_self hl] at ej
      cases ej; cases o
    · rw [List.getElem?_set_ne (Ne.symm hj)] at ej
      exact S.fresh j t p' ej o e2
  · by_cases hj : j = i
    · subst hj
      have hl : j < δ.length := (List.getElem?_eq_some_iff.mp e).1
      rw [List.getElem?_set_self hl] at ej
      cases ej; cases o1
    · by_cases hk : k = i
      · subst hk
        have hl : k < δ.length := (List.getElem?_eq_some_iff.mp e).1
        rw [List.getElem?_set_self hl] at ek
        cases ek; cases o2
      · rw [List.getElem?_set_ne (Ne.symm hj)] at ej
        rw [List.getElem?_set_ne (Ne.symm hk)] at ek
        exact S.apart j k t u p' ne ej ek o1 o2 e3 e4
theorem ds_freeze {i : Nat} (h : DS X G W s ws) : DS X G W s (sFreeze i ws) := PS.imp h fun D σ H ⟨F, δ, E, S, ⟨xs, e, p⟩, k⟩ => by
  obtain ⟨F2, z, S2⟩ := S.freeze e
  exact ⟨F2, _, E, S2, p, k.sub z⟩
end
end
end DW
set_option Elab.async false
set_option linter.all false
set_option maxRecDepth 100000
set_option maxHeartbeats 4000000
namespace DW
open PySem PySem.Spec L2

section
variable {K : PySem.W.Frag} {w : Option Dw} {G : Gd} {F F1 F2 H H1 H2 : Hp} {σ : L2.St} {δ : DEnv}
variable {X : Cx} {W : WX} {st : Bool} {tg iter e a b c elt : Expr} {es rest : List Expr} {we wa wb wc wk : WE'} {wt wu : WT} {waa : WA} {pos p : Pos} {s : Stmt} {ws wss : WS}
/-! ### writing a local's own list or dict -/
def SVAt (K : PySem.W.Frag) (F : Hp) (u : HO) : SV → Prop
  | .im _ => False
  | .ol xs => ∃ vs, u = .lst vs ∧ RepL K F vs xs
  | .oK kvs => ∃ vs, u = .dK vs ∧ RepKV K F vs kvs
  | .oT kvs => ∃ vs, u = .dT vs ∧ RepKV K F vs kvs
  | .drw => False
theorem RepS.mut {i : Nat} {s0 s1 : SV} {p : Addr} {u : HO} (S : RepS K G F H σ δ) (e : δ[i]? = some (some s0)) (o : s0.owned = true) (ep : σ[i]? = some (some (.ref p))) (n : SVAt K F u s1) :
    RepS K G F (upd H p u) σ (δ.set i (some s1)) := by
  obtain ⟨v0, e1, r0⟩ := S.slot i s0 e
  rw [ep] at e1
  cases e1
  obtain ⟨p', u0, eq, h, nf, nd⟩ := r0.own_at o
  cases eq
  have h0 := S.fresh i s0 p e o ep
  have hl : i < δ.length := (List.getElem?_eq_some_iff.mp e).1
  refine ⟨S.ext.write h0 h nf nd, by rw [List.length_set]; exact S.len, fun j t ej => ?_, fun j t p' ej oj e2 => ?_, fun j k t t' p' ne ej ek o1 o2 e3 e4 => ?_⟩
  · by_cases hj : j = i
    · subst hj
      rw [List.getElem?_set_self hl] at ej
      cases ej
      refine ⟨_, ep, ?_⟩
      cases s1 with
      | im d => exact n.elim
      | ol xs => obtain ⟨vs, rfl, l⟩ := n; exact ⟨p, vs, rfl, upd_same, nf, nd, l⟩
      | oK xs => obtain ⟨vs, rfl, l⟩ := n; exact ⟨p, vs, rfl, upd_same, nf, nd, l⟩
      | oT xs => obtain ⟨vs, rfl, l⟩ := n; exact ⟨p, vs, rfl, upd_same, nf, nd, l⟩
      | drw => exact n.elim
    · rw [List.getElem?_set_ne (Ne.symm hj)] at ej
      obtain ⟨v, e2, r⟩ := S.slot j t ej
      refine ⟨v, e2, ?_⟩
      have off : ∀ q, v = .ref q → t.owned = true → q ≠ p := fun q eq oq z => by
        subst z
        rw [eq] at e2
        exact S.apart j i t s0 q hj ej e oq o e2 ep
      cases t with
      | im d => exact r
      | ol ys => obtain ⟨q, us, rfl, hq, nq, ndq, lq⟩ := r; exact ⟨q, us, rfl, by rw [upd_ne (off q rfl rfl)]; exact hq, nq, ndq, lq⟩
      | oK ys => obtain ⟨q, us, rfl, hq, nq, ndq, lq⟩ := r; exact ⟨q, us, rfl, by rw [upd_ne (off q rfl rfl)]; exact hq, nq, ndq, lq⟩
      | oT ys => obtain ⟨q, us, rfl, hq, nq, ndq, lq⟩ := r; exact ⟨q, us, rfl, by rw [upd_ne (off q rfl rfl)]; exact hq, nq, ndq, lq⟩
      | drw => exact r
  · by_cases hj : j = i
    · subst hj
      rw [ep] at e2
      cases e2
      exact h0
    · rw [List.getElem?_set_ne (Ne.symm hj)] at ej
      exact S.fresh j t p' ej oj e2
  · by_cases hj : j = i
    · subst hj
      by_cases hk : k = j
      · exact ne hk.symm
      · rw [List.getElem?_set_ne (Ne.symm hk)] at ek
        exact S.apart j k s0 t' p' ne e ek o o2 e3 e4
    · rw [List.getElem?_set_ne (Ne.symm hj)] at ej
      by_cases hk : k = i
      · subst hk
        exact S.apart j k t s0 p' ne ej e o1 o e3 e4
      · rw [List.getElem?_set_ne (Ne.symm hk)] at ek
        exact S.apart j k t t' p' ne ej ek o1 o2 e3 e4
/-- xs.append(e) -/
def sAppend (i : Nat) (we : WE') : WS := fun E δ => ∃ xs, δ[i]? = some (some (.ol xs)) ∧ we δ (fun r => ∃ d, r.dat = some d ∧ xs.length < sizeLine ∧ E.nx (δ.set i (some (.ol (xs ++ [d]))))) E.ex
theorem ds_append {i : Nat} (h : PS X s (tDrop (tBM X.K "list" rAppend (tVar i) (tCons (dT X.K G W we) tNil)))) : DS X G W s (sAppend i we) := PS.imp h fun D σ H ⟨F, δ, E, S, ⟨xs, e, p⟩, k⟩ => by
  obtain ⟨v0, e1, pp, vs, rfl, hp, nf, nd, l⟩ := S.slot i _ e
  refine ⟨_, e1, .inl ⟨rfl, vs, SqL.of hp⟩, F, δ, _, _, S, p, fun v F1 H1 r x1 q ⟨d, er, hz, p1⟩ => ?_, k.xok S⟩
  obtain ⟨F2, x2, _, rd⟩ := q.freeze x1 er
  obtain ⟨h', n'⟩ := x2.keepN hp nf nd
  refine ⟨pp, vs, v, rfl, rfl, h', by rw [RepL.length l]; exact hz, ?_⟩
  exact k.nx σ F2 _ _ x2.fs ((S.to x2).mut (s1 := .ol (xs ++ [d])) e rfl e1 ⟨_, rfl, RepL.append (RepL.mono x2.fs l) (.cons rd .nil)⟩) p1
/-- xs.extend(e), e a list of one's own -/
def sExtend (i : Nat) (we : WE') : WS := fun E δ => ∃ xs, δ[i]? = some (some (.ol xs)) ∧ we δ (fun r => ∃ ys, r.own = some ys ∧ xs.length + ys.length ≤ sizeLine ∧ E.nx (δ.set i (some (.ol (xs ++ ys))))) E.ex
theorem ds_extend {i : Nat} (h : PS X s (tDrop (tBM X.K "list" rExtend (tVar i) (tCons (dT X.K G W we) tNil)))) : DS X G W s (sExtend i we) := PS.imp h fun D σ H ⟨F, δ, E, S, ⟨xs, e, p⟩, k⟩ => by
  obtain ⟨v0, e1, pp, vs, rfl, hp, nf, nd, l⟩ := S.slot i _ e
  refine ⟨_, e1, .inl ⟨rfl, vs, SqL.of hp⟩, F, δ, _, _, S, p, fun v F1 H1 r x1 q ⟨ys, er, hz, p1⟩ => ?_, k.xok S⟩
  obtain ⟨b, us, rfl, hb, lb⟩ := q.owns x1.le er
  obtain ⟨h', n'⟩ := x1.keepN hp nf nd
  refine ⟨pp, b, vs, us, rfl, rfl, h', hb, by rw [RepL.length l, RepL.length lb]; exact hz, ?_⟩
  exact k.nx σ F1 _ _ x1.fs ((S.to x1).mut (s1 := .ol (xs ++ ys)) e rfl e1 ⟨_, rfl, RepL.append (RepL.mono x1.fs l) lb⟩) p1
/-- target = xs.pop() -/
def sPop (j : Nat) (wg : WG) : WS := fun E δ => ∃ xs d, δ[j]? = some (some (.ol xs)) ∧ xs[xs.length - 1]? = some d ∧ wg d (δ.set j (some (.ol xs.dropLast))) E.nx
theorem ds_pop {j : Nat} {wg : WG} {ts : List Nat} (h : PS X s (tAsg (tBM0 X.K "list" rPop (tVar j)) (dGT X.K G ts wg))) : DS X G W s (sPop j wg) := PS.imp h fun D σ H ⟨F, δ, E, S, ⟨xs, d, e, ed, p⟩, k⟩ => by
  obtain ⟨v0, e1, pp, vs, rfl, hp, nf, nd, l⟩ := S.slot j _ e
  obtain ⟨v, ev, rd⟩ := RepL.get l ed
  refine ⟨_, e1, .inl ⟨rfl, vs, SqL.of hp⟩, pp, vs, v, rfl, rfl, hp, by rw [RepL.length l]; exact ev, ?_⟩
  exact ⟨F, _, d, _, S.mut (s1 := .ol xs.dropLast) e rfl e1 ⟨_, rfl, RepL.dropLast l⟩, rd, p, fun σ' δ' _ S' p' => k.nx σ' F _ δ' Sub.refl S' p'⟩
/-- target = xs.pop(0) -/
def sPop0 (j : Nat) (wg : WG) : WS := fun E δ => ∃ d xs, δ[j]? = some (some (.ol (d :: xs))) ∧ wg d (δ.set j (some (.ol xs))) E.nx
theorem ds_pop0 {j : Nat} {wg : WG} {ts : List Nat} (h : PS X s (tAsg (tBM X.K "list" rPopAt (tVar j) (tCons (tC (.int 0)) tNil)) (dGT X.K G ts wg))) : DS X G W s (sPop0 j wg) := PS.imp h fun D σ H ⟨F, δ, E, S, ⟨d, xs, e, p⟩, k⟩ => by
  obtain ⟨v0, e1, pp, vs, rfl, hp, nf, nd, l⟩ := S.slot j _ e
  cases l with
  | cons rd l =>
    rename_i v vr
    refine ⟨_, e1, .inl ⟨rfl, _, SqL.of hp⟩, pp, v :: vr, 0, 0, v, rfl, rfl, hp, by decide, by decide, ?_, rfl, ?_⟩
    · have : (vr.length : Nat) + 1 > 0 := Nat.succ_pos _
      first | rfl | (simp [seqIndex?])
    · exact ⟨F, _, d, _, S.mut (s1 := .ol xs) e rfl e1 ⟨_, rfl, l⟩, rd, p, fun σ' δ' _ S' p' => k.nx σ' F _ δ' Sub.refl S' p'⟩
/-- d[k] = v, d a local's own dict -/
def putE (s : SV) (kd : D) (d : D) (P : SV → Prop) : Prop := match s with
  | .oK kvs => ∃ k, keyOf kd = some k ∧ kvs.length < sizeLine ∧ P (.oK (putD kvs k d))
  | .oT kvs => ∃ ds ks, kd = .tuple ds ∧ keysOf ds = some ks ∧ kvs.length < sizeLine ∧ P (.oT (putD kvs ks d))
  | _ => False
def sPut (i : Nat) (wk wv : WE') : WS := fun E δ => ∃ s0, δ[i]? = some (some s0) ∧ wv δ (fun r => ∃ d, r.dat = some d ∧ wk δ (fun r2 => ∃ kd, r2 = .im kd ∧ putE s0 kd d fun s1 => E.nx (δ.set i (some s1))) E.ex) E.ex
theorem ds_put {i : Nat} (h : PS X s (sDPut (tVar i) (dT X.K G W wk) (dT X.K G W we))) : DS X G W s (sPut i wk we) := PS.imp h fun D σ H ⟨F, δ, E, S, ⟨s0, e0, p⟩, k⟩ => by
  refine ⟨F, δ, _, _, S, p, fun v F1 H1 r x1 q ⟨d, er, p1⟩ => ?_, k.xok S⟩
  obtain ⟨F2, x2, _, rd⟩ := q.freeze x1 er
  have S2 := S.to x2
  obtain ⟨v0, e1, r0⟩ := S2.slot i s0 e0
  refine ⟨v0, e1, dT.next S x2 (k.xok S) p1 fun kv F3 H3 r2 x3 q3 ⟨kd, ek, pe⟩ => ?_⟩
  subst ek
  have S3 := S2.to x3
  have r0' := r0.ext x3
  cases s0 with
  | oK kvs =>
    obtain ⟨kk, ek, hl, p3⟩ := pe
    obtain ⟨pp, vs, rfl, hp, nf, nd, l⟩ := r0'
    obtain rfl := RepD.key q3 ek
    exact ⟨pp, _, rfl, DPut.k hp (by rw [RepKV.length l]; exact hl), k.nx σ F3 _ _ (x2.trans x3).fs (S3.mut (s1 := .oK (putD kvs kk d)) e0 rfl e1 ⟨_, rfl, l.put (RepD.mono x3.fs rd)⟩) p3⟩
  | oT kvs =>
    obtain ⟨ds, ks, rfl, ek, hl, p3⟩ := pe
    obtain ⟨pp, vs, rfl, hp, nf, nd, l⟩ := r0'
    obtain ⟨b, us, rfl, hb, lb⟩ := RepR.tuple (K := X.K) (w := G.w) (H := H1) x3.le q3 (xs := ds) rfl
    obtain rfl := RepL.keys lb ek
    exact ⟨pp, _, rfl, DPut.t hp (x3.le _ _ hb) (by rw [RepKV.length l]; exact hl), k.nx σ F3 _ _ (x2.trans x3).fs (S3.mut (s1 := .oT (putD kvs ks d)) e0 rfl e1 ⟨_, rfl, l.put (RepD.mono x3.fs rd)⟩) p3⟩
  | _ => exact pe.elim

/-! ### loops -/
def forGo (wg : WG) (wb : WS) (E : DEnds) : List D → DEnv → Prop
  | [], δ => E.nx δ
  | d :: ds, δ => wg d δ fun δ1 => wb { E with nx := forGo wg wb E ds, ct := forGo wg wb E ds, bk := E.nx } δ1
def sFor (wi : WI) (wg : WG) (wb : WS) : WS := fun E δ => wi δ (fun items => forGo wg wb E items δ) E.ex
theorem ds_for {wi : WI} {wg : WG} {wb : WS} {ts : List Nat} (h : PS X s (tFor (dTI X.K G W true wi) (dGT X.K G ts wg) (dTS X.K G W wb))) : DS X G W s (sFor wi wg wb) := PS.imp h fun D σ H ⟨F, δ, E, S, p, k⟩ => by
  refine ⟨F, δ, _, _, S, p, fun J C F1 H1 items x1 c1 dw stc p1 => ?_, k.xok S⟩
  refine ⟨fun i m σ H => m = items.length - i ∧ i ≤ items.length ∧ ∃ F δ, Sub F1 F ∧ RepS X.K G F H σ δ ∧ forGo wg wb E (items.drop i) δ, ⟨_, rfl, Nat.zero_le _, F1, δ, Sub.refl, S.to x1, p1⟩, ?_⟩
  rintro i m σ H ⟨rfl, hi, F', δ', sb, S', go⟩
  have c' : C F' H := by
    have := stc
    unfold StC at this
    rw [if_pos rfl] at this
    exact this F1 H1 F' H c1 sb S'.ext.le
  obtain ⟨w1, w2, w3⟩ := dw F' H c' S'.ext.stay
  by_cases hlt : i < items.length
  · refine .inr ⟨w1 i hlt, fun σ'' H'' => i + 1 ≤ items.length ∧ ∃ F δ, Sub F1 F ∧ RepS X.K G F H'' σ'' δ ∧ forGo wg wb E (items.drop (i + 1)) δ, fun σ'' H'' n => ⟨items.length - (i + 1), by omega, rfl, n⟩, fun x H' y => ?_⟩
    have hd : items[i]? = some items[i] := List.getElem?_eq_getElem hlt
    have hdrop : items.drop i = items[i] :: items.drop (i + 1) := List.drop_eq_getElem_cons hlt
    rw [hdrop] at go
    obtain ⟨F2, x2, rd⟩ := w3 i x H' _ hd y
    refine ⟨F2, δ', _, _, S'.to x2, rd, go, fun σ2 δ2 _ S2 p2 => ⟨F2, δ2, _, S2, p2, ?_⟩⟩
    have sb2 : Sub F1 F2 := sb.trans x2.fs
    have sbF : Sub F F2 := x1.fs.trans sb2
    exact ⟨fun σ3 F3 H3 δ3 z S3 p3 => ⟨hlt, F3, δ3, sb2.trans z, S3, p3⟩, fun σ3 F3 H3 δ3 z S3 p3 => k.nx σ3 F3 H3 δ3 (sbF.trans z) S3 p3, fun σ3 F3 H3 δ3 z S3 p3 => ⟨hlt, F3, δ3, sb2.trans z, S3, p3⟩, k.rt, k.ex⟩
  · have hn : i = items.length := by omega
    subst hn
    rw [List.drop_length] at go
    exact .inl ⟨w2, k.nx σ F' H δ' (x1.fs.trans sb) S' go⟩
def sWhile (wt : WT) (wb : WS) : WS := fun E δ => ∃ I : Nat → DEnv → Prop, (∃ m, I m δ) ∧ ∀ m δ, I m δ →
  wt δ (fun b => if b = true then wb { E with nx := fun δ' => ∃ m', m' < m ∧ I m' δ', ct := fun δ' => ∃ m', m' < m ∧ I m' δ', bk := E.nx } δ else E.nx δ) E.ex
theorem ds_while {wb : WS} (h : PS X s (tWhile (dTT X.K G W wt) (dTS X.K G W wb))) : DS X G W s (sWhile wt wb) := PS.imp h fun D σ H ⟨F, δ, E, S, ⟨I, ⟨m0, i0⟩, turn⟩, k⟩ => by
  refine ⟨fun m σ H => ∃ F' δ', Sub F F' ∧ RepS X.K G F' H σ δ' ∧ I m δ', ⟨m0, F, δ, Sub.refl, S, i0⟩, ?_⟩
  rintro m σ' H' ⟨F', δ', sb, S', im⟩
  refine ⟨F', δ', _, _, S', turn m δ' im, fun b F1 H1 x1 p1 => ?_, (k.sub sb).xok S'⟩
  cases b with
  | false =>
    rw [if_neg Bool.false_ne_true] at p1 ⊢
    exact k.nx σ' F1 H1 δ' (sb.trans x1.fs) (S'.to x1) p1
  | true =>
    rw [if_pos rfl] at p1 ⊢
    have sb1 := sb.trans x1.fs
    refine ⟨fun σ2 H2 => ∃ m', m' < m ∧ ∃ F' δ', Sub F F' ∧ RepS X.K G F' H2 σ2 δ' ∧ I m' δ', fun σ2 H2 n => n, F1, δ', _, S'.to x1, p1, ?_⟩
    exact ⟨fun σ3 F3 H3 δ3 z S3 ⟨m', hm, p3⟩ => ⟨m', hm, F3, δ3, sb1.trans z, S3, p3⟩, fun σ3 F3 H3 δ3 z S3 p3 => k.nx σ3 F3 H3 δ3 (sb1.trans z) S3 p3, fun σ3 F3 H3 δ3 z S3 ⟨m', hm, p3⟩ => ⟨m', hm, F3, δ3, sb1.trans z, S3, p3⟩, k.rt, k.ex⟩

/-! ### calls of defs -/
abbrev DSpec := List R → (R → Prop) → (DX → Prop) → Prop
def plainR : R → Bool
  | .im _ => true
  | .drw => true
  | _ => false
theorem RepR.any {v : V} {r : R} {H' : Hp} (q : RepR K w H F1 H1 v r) (g : plainR r = true) : RepR K w H' F1 H1 v r := by
  cases r with
  | im d => exact q
  | drw => exact q
  | _ => cases g
theorem RepRs.any {vs : List V} {rs : List R} {H' : Hp} (q : RepRs K w H F1 H1 vs rs) (g : rs.all plainR = true) : RepRs K w H' F1 H1 vs rs := by
  induction q with
  | nil => exact .nil
  | cons r _ ih =>
    rw [List.all_cons, Bool.and_eq_true] at g
    exact .cons (r.any g.1) (ih g.2)
theorem RepRs.length {vs : List V} {rs : List R} (q : RepRs K w H F1 H1 vs rs) : vs.length = rs.length := by
  induction q with
  | nil => rfl
  | cons _ _ ih => rw [List.length_cons, List.length_cons, ih]
/-- the promise of a def over data: n arguments, data or the drawer -/
def dSp (K : PySem.W.Frag) (n : Nat) (S : DSpec) : Sp := fun vs H Q E => ∃ w F rs P PX, Ext w F H F H ∧ RepRs K w H F H vs rs ∧ rs.all plainR = true ∧ rs.length = n ∧ S rs P PX ∧
  (∀ v F' H' r, Ext w F H F' H' → RepR K w H F' H' v r → r.given = true → P r → Q v H') ∧ (∀ x F' H' cls d, Ext w F H F' H' → RepX K F' H' x cls d → PX x → E cls d H')
theorem dSp_len {n : Nat} {S : DSpec} (vs : List V) (H : Hp) (Q : VK) (E : XK) (h : dSp K n S vs H Q E) : vs.length = n := by
  obtain ⟨w, F, rs, P, PX, x, q, g, hn, _⟩ := h
  rw [q.length, hn]
def wCallF (n : Nat) (S : DSpec) (wa : WA) : WE' := fun δ P PX => wa δ (fun rs => rs.all plainR = true ∧ rs.length = n ∧ S rs (fun r => r.given = true → P r) PX) PX
theorem callF_of {n : Nat} {S : DSpec} {σ : L2.St} {H : Hp} {Q : VK} (h : dT K G W (wCallF n S waa) σ H Q) : dTA K G W waa σ H fun vs H1 => dSp K n S vs H1 Q (WE W σ) := by
  obtain ⟨F, δ, P, PX, S', p, k, xk⟩ := h
  refine ⟨F, δ, _, PX, S', p, fun vs F1 H1 rs x1 q ⟨g, hn, p1⟩ => ?_, xk⟩
  exact ⟨G.w, F1, rs, _, PX, x1.stay, q.any g, g, hn, p1, fun v F' H' r x2 q2 gv p2 => k v F' H' r (x1.trans x2) (q2.back x1) (p2 gv), fun x F' H' cls d x2 r px => xk x F' H' cls d (x1.trans x2) r px⟩
/-- a def that lets nothing out -/
theorem de_call {n : Nat} {S : DSpec} {E : XK} (h : PE X e (tCall (dSp X.K n S) [] E (dTA X.K G W waa))) (hS : ∀ rs P PX PX', S rs P PX → S rs P PX') : DE X G W e (wCallF n S waa) := PE.imp h fun σ H Q hq => by
  obtain ⟨F, δ, P, PX, S', p, k, xk⟩ := hq
  refine ⟨F, δ, _, PX, S', p, fun vs F1 H1 rs x1 q ⟨g, hn, p1⟩ => ?_, xk⟩
  show dSp X.K n S (vs ++ []) H1 Q E
  rw [List.append_nil]
  exact ⟨G.w, F1, rs, _, fun _ => False, x1.stay, q.any g, g, hn, hS _ _ _ _ p1, fun v F' H' r x2 q2 gv p2 => k v F' H' r (x1.trans x2) (q2.back x1) (p2 gv), fun x F' H' cls d x2 r px => px.elim⟩
theorem de_callX {n : Nat} {S : DSpec} (h : PE X e (tCallS (dSp X.K n S) (WE W) (dTA X.K G W waa))) : DE X G W e (wCallF n S waa) := PE.imp h fun σ H Q hq => callF_of hq
end
end DW
set_option Elab.async false
set_option linter.all false
set_option maxRecDepth 100000
set_option maxHeartbeats 4000000
namespace DW
open PySem PySem.Spec L2

section
variable {K : PySem.W.Frag} {w : Option Dw} {G : Gd} {F F1 F2 H H1 H2 : Hp} {σ : L2.St} {δ : DEnv}
variable {X : Cx} {W : WX} {st : Bool} {tg iter e a b c elt o : Expr} {es rest : List Expr} {we wa wb wc wk wo : WE'} {wt wu : WT} {waa : WA} {pos p apos cpos : Pos} {s : Stmt} {ws wss : WS}
/-! ### tuple(xs), any, all, max -/
def kTupOf : KC := fun rs P => match rs with
  | [.im (.tuple xs)] => P (.im (.tuple xs))
  | [r] => ∃ xs, r.lst = some xs ∧ P (.im (.tuple xs))
  | _ => False
theorem callD_tuple : CallD K (fun xs H Q => ∃ p ys, xs = [.ref p] ∧ ((SqL K H p ys ∧ ∀ l, H l = none → Q (.ref l) (upd H l (.tup ys))) ∨ (SqT K H p ys ∧ Q (.ref p) H))) kTupOf := by
  intro w H0 F H vs rs P Q x0 q h k
  unfold kTupOf at h
  split at h
  · rename_i xs
    cases q with
    | cons a t =>
      cases t
      obtain ⟨b, us, rfl, hb, lb⟩ := RepR.tuple (K := K) (w := w) (H := H0) x0.le a (xs := xs) rfl
      exact ⟨b, us, rfl, .inr ⟨.inl (.inl (x0.le _ _ hb)), k _ F H (.im (.tuple xs)) x0 a h⟩⟩
  · rename_i r hne
    obtain ⟨xs, e, p⟩ := h
    cases q with
    | cons a t =>
      cases t
      obtain ⟨b, us, rfl, hb, lb⟩ := a.list x0.le e
      refine ⟨b, us, rfl, .inl ⟨hb, fun l hl => ?_⟩⟩
      obtain ⟨x1, r1⟩ := new_tup (K := K) x0 hl lb
      exact k _ _ _ _ x1 r1 p
  · exact h.elim
theorem RepL.isBools : ∀ {bs : List Bool} {vs : List V}, RepL K F vs (bs.map PyData.bool) → vs = bs.map V.bl
  | [], _, h => by cases h; rfl
  | n :: r, _, h => by
    rw [List.map_cons] at h
    cases h with
    | cons a t => cases a; rw [RepL.isBools t]; rfl
def kAny : KC := fun rs P => ∃ (r : R) (bs : List Bool), rs = [r] ∧ r.lst = some (bs.map PyData.bool) ∧ P (.im (.bool (bs.any id)))
def kAll : KC := fun rs P => ∃ (r : R) (bs : List Bool), rs = [r] ∧ r.lst = some (bs.map PyData.bool) ∧ P (.im (.bool (bs.all id)))
theorem callD_any : CallD K (rAny K) kAny := by
  rintro w H0 F H vs rs P Q x0 q ⟨r, bs, rfl, e, p⟩ k
  cases q with
  | cons a t =>
    cases t
    obtain ⟨b, us, rfl, hb, lb⟩ := a.list x0.le e
    rw [RepL.isBools lb] at hb
    exact ⟨b, bs, rfl, hb, k _ F H (.im _) x0 (.bl _) p⟩
theorem callD_all : CallD K (rAll K) kAll := by
  rintro w H0 F H vs rs P Q x0 q ⟨r, bs, rfl, e, p⟩ k
  cases q with
  | cons a t =>
    cases t
    obtain ⟨b, us, rfl, hb, lb⟩ := a.list x0.le e
    rw [RepL.isBools lb] at hb
    exact ⟨b, bs, rfl, hb, k _ F H (.im _) x0 (.bl _) p⟩
def kMax2 : KC := fun rs P => ∃ i j : Int, rs = [.im (.int i), .im (.int j)] ∧ P (.im (.int (if j > i then j else i)))
theorem callD_max2 : CallD K (fun xs H Q => ∃ i j, xs = [.int i, .int j] ∧ Q (.int (if j > i then j else i)) H) kMax2 := by
  rintro w H0 F H vs rs P Q x0 q ⟨i, j, rfl, p⟩ k
  cases q with
  | cons a t =>
    cases t with
    | cons b u => cases u; cases a; cases b; exact ⟨i, j, rfl, k _ F H (.im _) x0 (.int _) p⟩
def kMaxL : KC := fun rs P => ∃ (r : R) (ns : List Int), rs = [r] ∧ r.lst = some (ns.map PyData.int) ∧ 0 < ns.length ∧ ∀ m, m ∈ ns → (∀ y, y ∈ ns → y ≤ m) → P (.im (.int m))
theorem callD_maxL : CallD K (rMax K) kMaxL := by
  rintro w H0 F H vs rs P Q x0 q ⟨r, ns, rfl, e, hn, p⟩ k
  cases q with
  | cons a t =>
    cases t
    obtain ⟨b, us, rfl, hb, lb⟩ := a.list x0.le e
    rw [RepL.isInts lb] at hb
    exact ⟨b, ns, rfl, hb, hn, fun m h1 h2 => k _ F H (.im _) x0 (.int _) (p m h1 h2)⟩
/-- by a built-in's name -/
theorem de_callB {r : List V → Hp → VK → Prop} {k : KC} (h : PE X e (tCB r (dTA X.K G W waa))) (hk : CallD X.K r k) : DE X G W e (wCall k waa) := PE.imp h fun _ _ _ h => tCB_of hk h

/-! ### tuple(range(..)) -/
def wTupR1 (wa : WE') : WE' := fun δ P PX => wa δ (fun r => ∃ n : Int, r = .im (.int n) ∧ 0 ≤ n ∧ n ≤ 16777216 ∧ P (.im (.tuple (intsD 0 n.toNat)))) PX
theorem RepL.rg : ∀ {lo : Int} {n : Nat}, RepL K F ((List.range n).map fun i => V.int (lo + (i : Nat))) (intsD lo n) := by
  intro lo n
  unfold intsD
  induction (List.range n) with
  | nil => exact .nil
  | cons i r ih => exact .cons (.int _) ih
theorem de_tupR1 (hc : X.calm = true) (hg : Gl X "tuple") (hm : X.mg "tuple" = none) (hg2 : Gl X "range") (hm2 : X.mg "range" = none) (ha : DE X G W a wa) (na : starEach [a] X.env = (false, eval a X.env) :: starEach [] X.env := by rfl)
    (nb : starEach [.Call (.Name "range" apos) [a] [] cpos] X.env = (false, eval (.Call (.Name "range" apos) [a] [] cpos) X.env) :: starEach [] X.env := by rfl) : DE X G W (.Call (.Name "tuple" p) [.Call (.Name "range" apos) [a] [] cpos] [] pos) (wTupR1 wa) :=
  PE.imp (pe_tupRg hc hg hm (prg_1 hg2 hm2 ha na) nb) fun σ H Q ⟨F, δ, P, PX, S, q, k, xk⟩ => by
    refine ⟨F, δ, _, PX, S, q, fun v F1 H1 r x1 q1 ⟨n, e, h1, h2, p1⟩ => ?_, xk⟩
    subst e
    cases q1
    refine ⟨n, rfl, RgOk.of_le (by decide) h2 (by decide) h1, fun t ht => ?_⟩
    have l : RepL X.K F1 (rgV 0 n) (intsD 0 n.toNat) := by
      unfold rgV
      rw [Int.sub_zero]
      exact RepL.rg
    obtain ⟨x2, r2⟩ := new_tup (K := X.K) x1.stay ht l
    exact k _ _ _ _ (x1.trans x2) (r2.back x1) p1

/-! ### methods of texts and lists -/
/-- a method: the receiver is read first -/
def MtD (K : PySem.W.Frag) (T : String) (r : V → List V → Hp → VK → Prop) (ok : R → Prop) (k : R → KC) : Prop :=
  (∀ (w : Option Dw) (H0 F H : Hp) (x : V) (r0 : R), Sub F H → RepR K w H0 F H x r0 → ok r0 → tyV K T x H) ∧
  ∀ (w : Option Dw) (H0 F H : Hp) (x : V) (r0 : R) (vs : List V) (rs : List R) (P : R → Prop) (Q : VK), Ext w F H F H → RepR K w H0 F H x r0 → RepRs K w H0 F H vs rs → k r0 rs P →
    (∀ v F' H' r, Ext w F H F' H' → RepR K w H F' H' v r → P r → Q v H') → r x vs H Q
def wMt (ok : R → Prop) (k : R → KC) (wo : WE') (wa : WA) : WE' := fun δ P PX => wo δ (fun r0 => ok r0 ∧ wa δ (fun rs => k r0 rs P) PX) PX
theorem de_mt {T : String} {r : V → List V → Hp → VK → Prop} {ok : R → Prop} {k : R → KC} (h : PE X e (tBM X.K T r (dT X.K G W wo) (dTA X.K G W waa))) (hk : MtD X.K T r ok k) : DE X G W e (wMt ok k wo waa) := PE.imp h fun σ H Q ⟨F, δ, P, PX, S, q, kk, xk⟩ => by
  refine ⟨F, δ, _, PX, S, q, fun x F1 H1 r0 x1 q1 ⟨ho, p1⟩ => ⟨hk.1 G.w H F1 H1 x r0 x1.le q1 ho, ?_⟩, xk⟩
  refine dTA.next S x1 xk p1 fun vs F2 H2 rs x2 q2 p2 => ?_
  exact hk.2 G.w H F2 H2 x r0 vs rs P Q x2.stay (q1.to x2) (q2.back x1) p2 fun v F' H' r x3 q3 p3 => kk v F' H' r ((x1.trans x2).trans x3) (q3.back (x1.trans x2)) p3
def isS (r : R) : Prop := ∃ s, r = .im (.str s)
def isL (r : R) : Prop := ∃ xs, r.lst = some xs
theorem tyS {w : Option Dw} {H0 F H : Hp} {x : V} {r0 : R} (le : Sub F H) (q : RepR K w H0 F H x r0) (h : isS r0) : tyV K "str" x H := by
  obtain ⟨s, rfl⟩ := h
  cases q
  rfl
theorem tyL {w : Option Dw} {H0 F H : Hp} {x : V} {r0 : R} (le : Sub F H) (q : RepR K w H0 F H x r0) (h : isL r0) : tyV K "list" x H := by
  obtain ⟨xs, e⟩ := h
  obtain ⟨b, us, rfl, hb, lb⟩ := q.list le e
  exact .inl ⟨rfl, us, hb⟩
/-- s.index(t) -/
def kSIndex : R → KC := fun r0 rs P => ∃ a b i rest, r0 = .im (.str a) ∧ rs = [.im (.str b)] ∧ Builtin.Str.occurrences a b 0 a.length 1 = i :: rest ∧ P (.im (.int (i : Nat)))
theorem mtD_sindex : MtD K "str" (fun x xs H Q => ∃ a b i rest, x = .str a ∧ xs = [.str b] ∧ Builtin.Str.occurrences a b 0 a.length 1 = i :: rest ∧ Q (.int (i : Nat)) H) isS kSIndex := by
  refine ⟨fun w H0 F H x r0 le q h => tyS le q h, ?_⟩
  rintro w H0 F H x r0 vs rs P Q x0 q qs ⟨a, b, i, rest, rfl, rfl, ho, p⟩ k
  cases q
  cases qs with
  | cons r t => cases t; cases r; exact ⟨a, b, i, rest, rfl, rfl, ho, k _ F H (.im _) x0 (.int _) p⟩
/-- sep.join(xs) -/
def kJoin : R → KC := fun r0 rs P => ∃ (a : Str) (r : R) (ys : List Str), r0 = .im (.str a) ∧ rs = [r] ∧ r.lst = some (ys.map PyData.str) ∧ (ys.map (·.length)).sum + ys.length * a.length ≤ 16777216 ∧ P (.im (.str (Txt.join a ys)))
theorem RepL.isStrs : ∀ {bs : List Str} {vs : List V}, RepL K F vs (bs.map PyData.str) → vs = bs.map V.str
  | [], _, h => by cases h; rfl
  | n :: r, _, h => by
    rw [List.map_cons] at h
    cases h with
    | cons a t => cases a; rw [RepL.isStrs t]; rfl
theorem mtD_join : MtD K "str" (fun x xs H Q => ∃ a p, ∃ ys : List Str, x = .str a ∧ xs = [.ref p] ∧ (SqL K H p (ys.map V.str) ∨ SqT K H p (ys.map V.str)) ∧
    (ys.map (·.length)).sum + ys.length * a.length ≤ 16777216 ∧ Q (.str (Txt.join a ys)) H) isS kJoin := by
  refine ⟨fun w H0 F H x r0 le q h => tyS le q h, ?_⟩
  rintro w H0 F H x r0 vs rs P Q x0 q qs ⟨a, r, ys, rfl, rfl, e, hz, p⟩ k
  cases q
  cases qs with
  | cons r t =>
    cases t
    obtain ⟨b, us, rfl, hb, lb⟩ := r.list x0.le e
    rw [RepL.isStrs lb] at hb
    exact ⟨a, b, ys, rfl, rfl, .inl hb, hz, k _ F H (.im _) x0 (.str _) p⟩
/-- xs.index(y) -/
def kLIndex : R → KC := fun r0 rs P => ∃ ds r d j z, r0.lst = some ds ∧ rs = [r] ∧ r.datA = some d ∧ SeqAt.shaped (.list ds) = true ∧ SeqAt.shaped d = true ∧ ds[j]? = some z ∧ PyData.eqv z d = true ∧
  (∀ (m : Nat) (z' : D), m < j → ds[m]? = some z' → PyData.eqv z' d = false) ∧ P (.im (.int (j : Nat)))
theorem mtD_lindex : MtD K "list" (rIndexD K) isL kLIndex := by
  refine ⟨fun w H0 F H x r0 le q h => tyL le q h, ?_⟩
  rintro w H0 F H x r0 vs rs P Q x0 q qs ⟨ds, r, d, j, z, e0, rfl, e, s1, s2, hz, he, hno, p⟩ k
  have hl := q.dpl x0.le e0
  cases qs with
  | cons r t =>
    cases t
    obtain ⟨b, us, rfl, hb, lb⟩ := q.list x0.le e0
    exact ⟨b, _, d, ds, j, z, rfl, rfl, hl, r.dp x0.le e, s1, s2, hz, he, hno, k _ F H (.im _) x0 (.int _) p⟩

/-! ### one sign in a text -/
def kInS (neg : Bool) : KO := fun r1 r2 P => ∃ (c : Nat) (z : Str), r1 = .im (.str ⟨#[c]⟩) ∧ r2 = .im (.str z) ∧ P (.im (.bool (if neg then !decide (c ∈ z.cps.toList) else decide (c ∈ z.cps.toList))))
theorem opd_inS : OpD K (fun x y H Q => ∃ (c : Nat) (z : Str), x = .str ⟨#[c]⟩ ∧ y = .str z ∧ Q (.bl (decide (c ∈ z.cps.toList))) H) (kInS false) := by
  intro w H0 F H x y r1 r2 P Q x0 q1 q2 ⟨c, z, e1, e2, p⟩ k
  subst e1; subst e2
  cases q1; cases q2
  exact ⟨c, z, rfl, rfl, k _ F H (.im _) x0 (.bl _) p⟩
theorem de_inS (ha : DE X G W a wa) (hb : DE X G W b wb) (hm : behindInMarks .In b = false := by rfl) : DE X G W (.Compare a [.In] [b] pos) (wOp (kInS false) wa wb) := de_cmp op_in_sign opd_inS ha hb hm

/-! ### slices -/
def wSl (k : R → Option Int → Option Int → (R → Prop) → Prop) (we : WE') (lo hi : WE' ⊕ Unit) : WE' := fun δ P PX => we δ (fun r => match lo, hi with
  | .inr _, .inr _ => k r none none P
  | .inl wl, .inr _ => wl δ (fun rl => ∃ i : Int, rl = .im (.int i) ∧ k r (some i) none P) PX
  | .inr _, .inl wh => wh δ (fun rh => ∃ i : Int, rh = .im (.int i) ∧ k r none (some i) P) PX
  | .inl wl, .inl wh => wl δ (fun rl => ∃ i : Int, rl = .im (.int i) ∧ wh δ (fun rh => ∃ j : Int, rh = .im (.int j) ∧ k r (some i) (some j) P) PX) PX) PX
end
end DW
set_option Elab.async false
set_option linter.all false
set_option maxRecDepth 100000
set_option maxHeartbeats 4000000
namespace DW
open PySem PySem.Spec L2

def R.arg : R → Option SV
  | .im d => some (.im d)
  | .drw => some .drw
  | _ => none
def startD (N : List Str) (rs : List R) : DEnv := rs.map R.arg ++ List.replicate (N.length - rs.length) none
section
variable {K : PySem.W.Frag} {w : Option Dw} {F H : Hp}
theorem start_get {N : List Str} {vs : List V} {rs : List R} {H0 : Hp} (q : RepRs K w H0 F H vs rs) : ∀ {i : Nat} {s : SV}, (startD N rs)[i]? = some (some s) → ∃ v r, (L2.start N vs)[i]? = some (some v) ∧ RepR K w H0 F H v r ∧ r.arg = some s := by
  intro i s e
  unfold startD at e
  unfold L2.start
  have hl := q.length
  by_cases h : i < rs.length
  · rw [List.getElem?_append_left (by rw [List.length_map]; exact h)] at e
    rw [List.getElem?_append_left (by rw [List.length_map]; omega)]
    clear hl h
    induction q generalizing i with
    | nil => simp at e
    | @cons v r vs rs a t ih =>
      cases i with
      | zero =>
        simp only [List.map_cons, List.getElem?_cons_zero] at e ⊢
        exact ⟨v, r, rfl, a, Option.some.inj e⟩
      | succ j =>
        simp only [List.map_cons, List.getElem?_cons_succ] at e ⊢
        exact ih e
  · rw [List.getElem?_append_right (by rw [List.length_map]; omega)] at e
    rw [List.getElem?_replicate] at e
    split at e <;> cases e
theorem start_ok {N : List Str} {vs : List V} {rs : List R} (x : Ext w F H F H) (q : RepRs K w H F H vs rs) (hN : rs.length ≤ N.length) : RepS K ⟨w, F, H⟩ F H (L2.start N vs) (startD N rs) := by
  have own : ∀ {r : R} {s : SV}, r.arg = some s → s.owned = true → False := fun {r s} e o => by
    cases r with
    | im d => cases e; cases o
    | drw => cases e; cases o
    | _ => cases e
  refine ⟨x, ?_, fun i s e => ?_, fun i s p e o _ => ?_, fun i j s t p _ e _ o _ _ _ => ?_⟩
  · unfold L2.start startD
    rw [List.length_append, List.length_append, List.length_map, List.length_map, List.length_replicate, List.length_replicate, q.length]
  · obtain ⟨v, r, e1, rr, ea⟩ := start_get q e
    refine ⟨v, e1, ?_⟩
    cases r with
    | im d => cases ea; exact rr
    | drw => cases ea; exact rr
    | _ => cases ea
  · obtain ⟨v, r, e1, rr, ea⟩ := start_get q e
    exact (own ea o).elim
  · obtain ⟨v, r, e1, rr, ea⟩ := start_get q e
    exact (own ea o).elim
end
/-- what a def's body is to end in -/
def fnEnds (P : R → Prop) (PX : DX → Prop) : DEnds := ⟨fun _ => P (.im .none), fun r => r.given = true ∧ P r, fun _ => False, fun _ => False, PX⟩
section
variable {P : Program} {w : World} {K : PySem.W.Frag} {mg : Str → Option Value} {base : Heap}
theorem dfn_ok {x qual : Str} {st : Stmt} {f : Addr} {fd : FuncData} {N ps : List Str} {k n : Nat} {S : DSpec} {ws : WS} (Fn : Fun K x qual st f fd) (sc : FnScope N ps (defScope st)) (hn : ps.length = n) (hN : n ≤ N.length)
    (body : ∀ (cdv : Value) (A : Around) (outer : List Env) (s : Shared) (H : Hp) (E : XK) (G : Gd), Room k (A.deeper (PyProof.Rows.envOfC qual (defScope st) s.heap.objs.size f cdv)) →
      DSs (cxOf CX0 P w K mg base N qual (defScope st) f cdv A outer s H E).nox G wTrue (defBody st) ws)
    (sem : ∀ rs P, rs.length = n → rs.all plainR = true → S rs P (fun _ => False) → ws (fnEnds P fun _ => False) (startD N rs))
    (hS : ∀ rs P PX, S rs P PX → S rs P fun _ => False) : FnOk P w K mg base CX0 (k + 1) f fd ps (dSp K n S) := by
  refine Fn.ok sc (fun vs H Q E h => (dSp_len vs H Q E h).trans hn.symm) fun cdv A outer s H vs Q E hr h => ?_
  obtain ⟨dw, F, rs, PP, PX, x, q, g, hl, hs, kq, _⟩ := h
  refine ⟨_, body cdv A outer s H E ⟨dw, F, H⟩ hr, F, _, fnEnds PP fun _ => False, start_ok x q (by rw [hl]; exact hN), sem rs PP hl g (hS _ _ _ hs), ?_⟩
  refine ⟨fun σ' F' H' δ' _ S' p => ?_, fun _ _ _ _ _ _ z => z.elim, fun _ _ _ _ _ _ z => z.elim, fun v F' H' r x' r' ⟨gv, p⟩ => kq v F' H' r x' r' gv p, fun _ _ _ _ _ _ _ _ z => z.elim⟩
  exact kq .non F' H' (.im .none) S'.ext .non rfl p
/-- a def that may let out an exception -/
theorem dfn_okX {x qual : Str} {st : Stmt} {f : Addr} {fd : FuncData} {N ps : List Str} {k n : Nat} {S : DSpec} {ws : WS} (Fn : Fun K x qual st f fd) (sc : FnScope N ps (defScope st)) (hn : ps.length = n) (hN : n ≤ N.length)
    (body : ∀ (cdv : Value) (A : Around) (outer : List Env) (s : Shared) (H : Hp) (E : XK) (G : Gd), Room k (A.deeper (PyProof.Rows.envOfC qual (defScope st) s.heap.objs.size f cdv)) →
      DSs (cxOf (L2.CX P w) P w K mg base N qual (defScope st) f cdv A outer s H E) G (fun cls d _ H => E cls d H) (defBody st) ws)
    (sem : ∀ rs P PX, rs.length = n → rs.all plainR = true → S rs P PX → ws (fnEnds P PX) (startD N rs)) : FnOk P w K mg base (L2.CX P w) (k + 1) f fd ps (dSp K n S) := by
  refine Fn.okX sc (fun vs H Q E h => (dSp_len vs H Q E h).trans hn.symm) fun cdv A outer s H vs Q E hr h => ?_
  obtain ⟨dw, F, rs, PP, PX, x, q, g, hl, hs, kq, kx⟩ := h
  refine ⟨_, body cdv A outer s H E ⟨dw, F, H⟩ hr, F, _, fnEnds PP PX, start_ok x q (by rw [hl]; exact hN), sem rs PP PX hl g hs, ?_⟩
  refine ⟨fun σ' F' H' δ' _ S' p => ?_, fun _ _ _ _ _ _ z => z.elim, fun _ _ _ _ _ _ z => z.elim, fun v F' H' r x' r' ⟨gv, p⟩ => kq v F' H' r x' r' gv p, fun x F' H' cls d σ' e r p => kx x F' H' cls d e r p⟩
  exact kq .non F' H' (.im .none) S'.ext .non rfl p
end
end DW
set_option Elab.async false
set_option linter.all false
set_option maxRecDepth 100000
set_option maxHeartbeats 4000000
namespace DW
open PySem PySem.Spec L2 PyProof.Rows

section
variable {X : Cx}
/-- a display's or a comprehension's own store, whatever the keys -/
theorem dset {pins : List (Addr × Obj)} {σ : L2.St} {H H' : Hp} {s : Shared} {E : Value → Shared → Prop} {D : Addr} {y v : V} {u r : Value} {Q : Unit → Shared → Prop} (hu : X.A.units + 1 < cLine) (I : Inv X pins σ H s) (g : DPut H D y v H')
    (ry : RelV y u) (rv : RelV v r) (h : ∀ t, Inv X pins σ H' t → Q () t) : wpAny (model X.prog X.w) X.A (dictSet D u r) Q E s := by
  rcases g with ⟨kvs, k, e, ey, l, eH⟩ | ⟨kvs, k, b, e, ey, eb, l, eH⟩
  · subst ey; subst eH
    exact d_dictSet I e l ry rv h
  · subst ey; subst eH
    obtain rfl : u = Value.ref b := ry
    obtain ⟨z, ns, xs, q, dd⟩ := dt_of I.hok e
    have z1 : xs.length ≤ sizeLine := Paired.length q ▸ z
    have z2 : (putK kvs k v).length ≤ sizeLine := Nat.le_trans (length_putK kvs k v) (by omega)
    refine wpAny_dictSet_heap (hsz := z1) (Nat.lt_of_succ_lt hu) (key_of I.hok eb) dd fun hp dd2 sb => h _ ?_
    obtain ⟨ob, es, ep, hq, a2, a3, a4, _, a5⟩ := dd2
    have cut : ∀ c ys, H c = some (.tup ys) → upd H D (.dT (putK kvs k v)) c = some (.tup ys) := fun c ys ec => by
      rw [upd_ne (ne_of ec e (fun z => nomatch z))]; exact ec
    exact d_write I (by rw [e]; exact True.intro) sb ⟨ob, hq⟩ ⟨z2, ns, _, (q.put k eb rv).keeps cut, ob, es, ep, hq, a2, a3, a4, a5⟩
/-- what is wanted of {k: v for ..}: o0 the empty dict of the kind -/
def tDG (o0 : HO) (wi : TI) (g : TG) (tt : TT) (tk tv : TE) (vs : List Nat) : TE := fun σ H Q => wi σ H fun J H1 => ∀ D, H1 D = none → ∃ U : Nat → Nat → Hp → Prop, (∃ m, U 0 m (upd H1 D o0)) ∧ ∀ i m H, U i m H →
  (J.stop i H ∧ Q (.ref D) H) ∨ (J.go i H ∧ ∃ Nx : Hp → Prop, (∀ H', Nx H' → ∃ n, n < m ∧ U (i + 1) n H') ∧ ∀ x H', J.yld i H x H' → g x (wipe σ vs) H' fun τ H2 => wipe τ vs = wipe σ vs ∧ tt τ H2 fun b H3 =>
    if b = true then tk τ H3 fun y H4 => tv τ H4 fun z H5 => ∃ H6, DPut H5 D y z H6 ∧ Nx H6 else Nx H3)
/-- o0 is an empty dict -/
def Emp (o0 : HO) : Prop := o0 = .dK [] ∨ o0 = .dT []
theorem Emp.ok {o0 : HO} (e : Emp o0) {P : Program} {w : World} {H : Hp} (h : Heap) (hb : sysModules < h.objs.size) : ObjOk P w H (h.push { cls := .type "dict", data := .dict #[] }) h.objs.size o0 := by
  rcases e with rfl | rfl
  · exact dk_empty h hb
  · exact dt_empty h hb
theorem dg_core {o0 : HO} {pins : List (Addr × Obj)} {s : Shared} {σ : L2.St} {H : Hp} {Q : VK} {kx vx tg iter : Expr} {ifs : List Expr} {scope : Scope} {own : List (Str × Nat)} {p1 p2 : Pos} {wi : TI} {g : TG} {tt : TT} {tk tv : TE} {use : Option (Value → Sem Unit)} {Qf : Value → Shared → Prop}
    (he0 : Emp o0) (hu : X.A.units + 1 < cLine) (calm : X.calm = true) (nd : X.N.Nodup) (I : Inv X pins σ H s) (hi : PI X tg iter wi) (ok : BlkOk X.N X.env.scope scope own)
    (hg : ∀ (s : Shared) (H : Hp) (C : Addr) (cl : List (Str × Addr)) (fp : List Addr), PG (X.blk s H scope (compEnvC scope cl C X.env) fp) tg g) (ht : ∀ (s : Shared) (H : Hp) (C : Addr) (cl : List (Str × Addr)) (fp : List Addr), PTs (X.blk s H scope (compEnvC scope cl C X.env) fp) ifs tt)
    (hk : ∀ (s : Shared) (H : Hp) (C : Addr) (cl : List (Str × Addr)) (fp : List Addr), PE (X.blk s H scope (compEnvC scope cl C X.env) fp) kx tk) (hv : ∀ (s : Shared) (H : Hp) (C : Addr) (cl : List (Str × Addr)) (fp : List Addr), PE (X.blk s H scope (compEnvC scope cl C X.env) fp) vx tv)
    (hs : ∀ x, foldedSetIterable iter X.env x = pure x) (h : tDG o0 wi g tt tk tv (own.map (·.2)) σ H Q)
    (fin0 : ∀ D C t m H', Inv X pins σ H' t → Q (.ref D) H' → t.heap.Ns C m → FpOk X pins H' C → compPost (model X.prog X.w) X.A X.xe use Qf (.ref D) C (.ok .next) t) :
    wpAny (model X.prog X.w) X.A (comprehension (.DictComp kx vx [⟨tg, iter, ifs, 0⟩] scope p1) scope X.env p2 newDict false (eval iter X.env) use) Qf X.xe s := by
  have caught : ∀ y ∈ scope.names, y.2 = .free → ∃ c, X.env.cells.lookup y.1 = some c := fun y hy e => (ok.free y hy e).elim (fun k => I.ok.has _ (.inl k)) fun k => I.ok.has _ (.inr k)
  refine wpAny_comprehension_free (use := use) rfl hs (closure_ok caught) ok.kind (fun y hy e => by rw [ok.uniq y hy, e]) (thn (hi.run pins s σ H _ I h) fun xv t1 hx => thn hx fun itv t2 z => ?_)
  obtain ⟨it, fp, tn, J, H2, e, I2, T, at0, f2, q⟩ := z
  subst e
  refine wpAny_newObj_type (newEnv_comp ?_)
  generalize eD : t2.heap.objs.size = D
  have gone : H2 D = none := I2.hok.fresh (Nat.le_of_eq eD)
  obtain ⟨U, ⟨m0, u0⟩, turn⟩ := q D gone
  generalize e3 : ({ t2 with heap := t2.heap.push { cls := .type "dict", data := .dict #[] } } : Shared) = t3
  have I3 : Inv X pins σ (upd H2 D o0) t3 := by
    subst e3; subst eD
    exact I2.laid (t' := t2.toks) (fun b o e => Heap.get?_push_of_some _ e) (Nat.le_refl _) (he0.ok t2.heap I2.big)
  have k3 : t3.heap = t2.heap.push { cls := .type "dict", data := .dict #[] } := by subst e3; rfl
  have below : ∀ b ∈ fp, b < t2.heap.objs.size := fun b hb => let ⟨o, e, _⟩ := T.obj _ _ at0 b hb; Heap.lt_size e
  have f3 : ∀ b ∈ fp, FpOk X pins (upd H2 D o0) b ∧ b < t3.heap.objs.size := fun b hb => by
    have lt := below b hb
    have ne : b ≠ D := by rw [← eD]; exact Nat.ne_of_lt lt
    exact ⟨⟨by rw [upd_ne ne]; exact (f2 b hb).1, (f2 b hb).2⟩, by rw [k3, Heap.size_push]; exact Nat.lt_succ_of_lt lt⟩
  have at3 : tn 0 t3.heap := T.keep _ _ _ at0 fun b _ o e => by rw [k3]; exact Heap.get?_push_of_some _ e
  have I4 := block_start I3 ok nd f3
  generalize ecl : cellsFrom (t3.heap.objs.size + 1) scope.names (cloFrom X.env.cells scope.names []) = cl at I4
  have pg := hg t3 (upd H2 D o0) t3.heap.objs.size cl fp
  have pt := ht t3 (upd H2 D o0) t3.heap.objs.size cl fp
  have pk := hk t3 (upd H2 D o0) t3.heap.objs.size cl fp
  have pe := hv t3 (upd H2 D o0) t3.heap.objs.size cl fp
  subst ecl
  show codeAny _ _ (.compStart (.DictComp kx vx [⟨tg, iter, ifs, 0⟩] scope p1) 0 (.ref it) (.ref D) (compEnvC scope (cellsFrom (t3.heap.objs.size + 1) scope.names (cloFrom X.env.cells scope.names [])) t3.heap.objs.size X.env)) (compPost (model X.prog X.w) X.A X.xe use Qf (.ref D) t3.heap.objs.size) { t3 with heap := pushCells (t3.heap.push { cls := .type "dict", data := .dict #[] }) scope.names }
  have nofp : ∀ b ∈ fp, (upd H2 D o0) b = none := fun b hb => (f3 b hb).1.1
  generalize ee : compEnvC scope (cellsFrom (t3.heap.objs.size + 1) scope.names (cloFrom X.env.cells scope.names [])) t3.heap.objs.size X.env = ce at I4 pg pt pk pe ⊢
  have eL : ce.locals = t3.heap.objs.size := by subst ee; rfl
  generalize eH : upd H2 D o0 = H3 at I3 I4 pg pt pk pe u0 nofp f3
  generalize e4 : ({ t3 with heap := pushCells (t3.heap.push { cls := .type "dict", data := .dict #[] }) scope.names } : Shared) = t4 at I4 ⊢
  have at4 : tn 0 t4.heap := T.keep _ _ _ at3 fun b _ o e => by subst e4; exact pushCells_keeps _ _ _ _ (Heap.get?_push_of_some _ e)
  have still : ∀ {τ : L2.St} {H' : Hp} {t : Shared}, Inv (X.blk t3 H3 scope ce fp) [] τ H' t → (∀ b ∈ fp, H' b = none) → ∀ b ∈ fp, FpOk (X.blk t3 H3 scope ce fp) [] H' b := fun {τ H' t} J' n b hb => ⟨n b hb, (J'.ok.exf b hb).1, J'.ok.exfs b hb, .inl hb, fun x c e => (J'.ok.exf b hb).2 x c e, fun p hp => by cases hp⟩
  have loop : codeAny (model X.prog X.w) X.A (.compLoop (.DictComp kx vx [⟨tg, iter, ifs, 0⟩] scope p1) 0 (.ref it) (.ref D) ce) (compPost (model X.prog X.w) X.A X.xe use Qf (.ref D) t3.heap.objs.size) t4 := by
    refine compLoop_anyD (fun n t => ∃ i H', Inv (X.blk t3 H3 scope ce fp) [] (wipe σ (own.map (·.2))) H' t ∧ tn i t.heap ∧ (∀ b ∈ fp, H' b = none) ∧ U i n H') ?_ m0 ⟨0, H3, I4, at4, nofp, u0⟩
    rintro n t5 ⟨i, H5, I5, at5, n5, u5⟩
    rcases turn i n H5 u5 with ⟨stop, qq⟩ | ⟨go, Nx, more, step⟩
    · refine thnF (T.done (X.blk t3 H3 scope ce fp) rfl rfl rfl calm i [] t5 _ H5 (fun _ _ => False) I5 (still I5 n5) at5 stop) fun r t6 ⟨hr, I6⟩ => ?_
      subst hr
      have I7 : Inv X pins σ H5 t6 := I3.call' (ch := fp) I6.os I6.base I6.hok I6.bare fun b hb => let ⟨_, c1, c2, c3, c4, c5⟩ := (f3 b hb).1; ⟨c3, c1, c4, c5⟩
      have nC : H5 t3.heap.objs.size = none := by rw [← eL]; exact I6.free
      obtain ⟨m, hn, _⟩ := I6.loc
      have hn2 : t6.heap.Ns t3.heap.objs.size m := by rw [← eL]; exact hn
      exact fin0 D t3.heap.objs.size t6 m H5 I7 qq hn2 (I3.fpOk (Nat.le_refl _) nC)
    · refine thnF (T.item (X.blk t3 H3 scope ce fp) rfl rfl rfl calm i [] t5 _ H5 (fun _ _ => False) I5 (still I5 n5) at5 go) fun r t6 ⟨u, hr, h6⟩ => ?_
      subst hr
      refine thnF h6 fun _ t7 ⟨x, H7, I7, r7, y7, at7, n7⟩ => thnF (pg.run _ t7 _ H7 x u _ (I7.pinned (still I7 n7) (T.obj _ _ at7)) r7 (step x H7 y7)) fun _ t8 ⟨τ, H8, I8, hw, q8⟩ => thnF (pt.run _ t8 τ H8 _ I8 q8) fun b t9 ⟨H9, I9, q9⟩ => ?_
      have back : ∀ {t : Shared} {H' : Hp}, Inv (X.blk t3 H3 scope ce fp) ([] ++ pinsAt fp t7.heap) τ H' t → Nx H' → ∃ m, m < n ∧ ∃ i H', Inv (X.blk t3 H3 scope ce fp) [] (wipe σ (own.map (·.2))) H' t ∧ tn i t.heap ∧ (∀ b ∈ fp, H' b = none) ∧ U i m H' := fun {t H'} J' nx => by
        obtain ⟨m', hm, u'⟩ := more H' nx
        have hold : ∀ b ∈ fp, ∀ o, t7.heap.get? b = some o → t.heap.get? b = some o ∧ H' b = none := fun b hb o e => let z := J'.pin (b, o) (List.mem_append_right _ (List.mem_append_right _ (mem_pinsAt hb e))); ⟨z.1, z.2.1⟩
        refine ⟨m', hm, i + 1, H', (J'.unpinned (pins := [])).weak (by rw [← hw, wipe_length]) (fun j v e => (wipe_some (by rw [← hw] at e; exact e)).1), T.keep _ _ _ at7 fun b hb o e => (hold b hb o e).1, fun b hb => ?_, u'⟩
        obtain ⟨o, e, _⟩ := T.obj _ _ at7 b hb
        exact (hold b hb o e).2
      cases b with
      | false => rw [if_neg Bool.false_ne_true] at q9 ⊢; exact back I9 q9
      | true =>
        rw [if_pos rfl] at q9 ⊢
        exact thnF (pk.run _ t9 τ H9 _ I9 q9) fun z ta ⟨yk, Ha, Ia, ra, qa⟩ => thnF (pe.run _ ta τ Ha _ Ia qa) fun z2 tb ⟨yv, Hb, Ib, rb, H6, put, nx⟩ => dset (X := X.blk t3 H3 scope ce fp) hu Ib put ra rb fun tc Ic => back Ic nx
  exact codeAny_compStart_dict loop (T.self X.A 0 _ _ _ at4 loop)
theorem pe_dG {o0 : HO} {kx vx tg iter : Expr} {ifs : List Expr} {scope : Scope} {own : List (Str × Nat)} {pos : Pos} {wi : TI} {g : TG} {tt : TT} {tk tv : TE} (he0 : Emp o0) (hu : X.A.units + 1 < cLine) (calm : X.calm = true) (nd : X.N.Nodup) (hi : PI X tg iter wi) (ok : BlkOk X.N X.env.scope scope own)
    (hg : ∀ (s : Shared) (H : Hp) (C : Addr) (cl : List (Str × Addr)) (fp : List Addr), PG (X.blk s H scope (compEnvC scope cl C X.env) fp) tg g) (ht : ∀ (s : Shared) (H : Hp) (C : Addr) (cl : List (Str × Addr)) (fp : List Addr), PTs (X.blk s H scope (compEnvC scope cl C X.env) fp) ifs tt)
    (hk : ∀ (s : Shared) (H : Hp) (C : Addr) (cl : List (Str × Addr)) (fp : List Addr), PE (X.blk s H scope (compEnvC scope cl C X.env) fp) kx tk) (hv : ∀ (s : Shared) (H : Hp) (C : Addr) (cl : List (Str × Addr)) (fp : List Addr), PE (X.blk s H scope (compEnvC scope cl C X.env) fp) vx tv) (hs : ∀ x, foldedSetIterable iter X.env x = pure x := by intro _; rfl) :
    PE X (.DictComp kx vx [⟨tg, iter, ifs, 0⟩] scope pos) (tDG o0 wi g tt tk tv (own.map (·.2))) := ⟨fun pins s σ H Q I h => by
  rw [arm_eval_DictComp]
  exact dg_core he0 hu calm nd I hi ok hg ht hk hv hs h fun D C t m H' J' q hn f => ⟨m, hn, fun h'' sb => let ⟨f0, f1, f2, f3, f4, f5⟩ := f; ⟨.ref D, H', J'.turned (t' := t.toks) (fun b o hb e => (sb.2 b hb).trans e) f0 f1 f3 f4 f5, rfl, q⟩⟩⟩
/-- {k: v}, k a tuple -/
theorem pe_dT1 {k v : Expr} {tk tv : TE} {pos : Pos} (hu : X.A.units + 1 < cLine) (hk : PE X k tk) (hv : PE X v tv) : PE X (.Dict [some k] [v] pos)
    (fun σ H Q => ∀ p, H p = none → tk σ (upd H p (.dT [])) fun x H1 => tv σ H1 fun y H2 => H2 p = some (.dT []) ∧ ∃ ks b, x = .ref b ∧ H2 b = some (.tup (ks.map kV)) ∧ Q (.ref p) (upd H2 p (.dT [(ks, y)]))) := by
  refine ⟨fun pins s σ H Q I q => ?_⟩
  have hn := I.hok.fresh (Nat.le_refl s.heap.objs.size)
  have I1 := I.laid (a := s.heap.objs.size) (o := .dT []) (h' := s.heap.push { cls := .type "dict", data := .dict #[] }) (t' := s.toks) (fun _ _ q => Heap.get?_push_of_some _ q) (Nat.le_refl _) (dt_empty s.heap I.big)
  have shape := zip_pairTrees [some k] [v] X.env pos rfl rfl
  rw [arm_eval_Dict, shape, dictDisplay_pairs (pairTrees [some k] [v] X.env pos) (by intro z; cases z) (show (1 : Nat) < 17 by decide)]
  refine wpAny_bind (wpAny_standAt (wpAny_bind (wpAny_subDictH (knd := tupleKind (mixKind X.prog X.w)) (Q := fun d t => wpAny (model X.prog X.w) X.A (pure (Value.ref d)) _ X.xe t) (Nat.lt_of_succ_lt hu) (show (1 : Nat) ≤ 15 by decide) (pairTrees_cons_walk (thn (hk.run pins _ σ _ _ I1 (q _ hn)) fun u t1 ⟨x, H1, J1, rx, q1⟩ => thn (hv.run pins t1 σ H1 _ J1 q1) fun u2 t2 ⟨y, H2, J2, ry, e, ks, b, ex, eb, q2⟩ => pairTrees_nil_walk ?_)))))
  subst ex
  obtain rfl : u = Value.ref b := rx
  obtain ⟨z, ns, xs, rel, dd⟩ := dt_of J2.hok e
  cases rel
  refine ⟨[(ks, b, u2)], ⟨rfl, rfl, key_of J2.hok eb, trivial⟩, dd, fun h' tk dd2 sb => wpAny_pure ⟨.ref s.heap.objs.size, _, ?_, rfl, q2⟩⟩
  obtain ⟨ob, es, ep, hq, a2, a3, a4, _, a5⟩ := dd2
  have cut : ∀ c ys, H2 c = some (.tup ys) → upd H2 s.heap.objs.size (.dT [(ks, y)]) c = some (.tup ys) := fun c ys ec => by
    rw [upd_ne (ne_of ec e (fun z => nomatch z))]; exact ec
  exact d_write J2 (by rw [e]; exact True.intro) sb ⟨ob, hq⟩ ⟨(show (1 : Nat) ≤ sizeLine by decide), ns, [(ks, b, u2)], .cons ⟨rfl, cut _ _ eb, ry⟩ .nil, ob, es, ep, hq, a2, a3, a4, a5⟩
end
end DW
set_option Elab.async false
set_option linter.all false
set_option maxRecDepth 100000
set_option maxHeartbeats 4000000
namespace DW
open PySem PySem.Spec L2

section
variable {K : PySem.W.Frag} {w : Option Dw} {G : Gd} {F F1 F2 H H1 H2 : Hp} {σ : L2.St} {δ : DEnv}
variable {X : Cx} {W : WX} {st : Bool} {tg iter e a b c elt o kx vx : Expr} {es rest : List Expr} {we wa wb wc wk wv wo : WE'} {wt wu : WT} {waa : WA} {pos p apos cpos : Pos} {s : Stmt} {ws wss : WS}
/-! ### dicts made -/
theorem new_dict (x0 : Ext w F H F H) {p : Addr} {u : HO} (hp : H p = none) : Ext w F H F (upd H p u) ∧ F p = none ∧ ∀ d, w = some d → d.a ≠ p := by
  refine ⟨x0.own hp, x0.le.none hp, fun d e z => ?_⟩
  obtain ⟨i, r, c, h, _⟩ := (x0.dr d e).at_
  rw [z, hp] at h; cases h
def wNewK : WE' := fun _ P _ => P (.oK [])
def wNewT : WE' := fun _ P _ => P (.oT [])
theorem de_newK : DE X G W (.Dict [] [] pos) wNewK := PE.imp pe_dnewK fun σ H Q ⟨F, δ, P, PX, S, q, k, xk⟩ p hp => by
  obtain ⟨x1, n, nd⟩ := new_dict (u := .dK []) S.ext.stay hp
  exact k _ F _ (.oK []) x1 ⟨p, [], rfl, hp, upd_same, n, nd, .nil⟩ q
theorem de_newT : DE X G W (.Dict [] [] pos) wNewT := PE.imp pe_dnewT fun σ H Q ⟨F, δ, P, PX, S, q, k, xk⟩ p hp => by
  obtain ⟨x1, n, nd⟩ := new_dict (u := .dT []) S.ext.stay hp
  exact k _ F _ (.oT []) x1 ⟨p, [], rfl, hp, upd_same, n, nd, .nil⟩ q
def wDispT (wk wv : WE') : WE' := fun δ P PX => wk δ (fun r => ∃ ds ks, r = .im (.tuple ds) ∧ keysOf ds = some ks ∧ wv δ (fun r2 => ∃ d, r2.dat = some d ∧ P (.oT [(ks, d)])) PX) PX
theorem de_dispT (hu : X.A.units + 1 < cLine) (hk : DE X G W kx wk) (hv : DE X G W vx wv) : DE X G W (.Dict [some kx] [vx] pos) (wDispT wk wv) := PE.imp (pe_dT1 hu hk hv) fun σ H Q ⟨F, δ, P, PX, S, q, k, xk⟩ p hp => by
  obtain ⟨x0, n, nd⟩ := new_dict (u := .dT []) S.ext.stay hp
  refine dT.next S x0 xk q fun x F1 H1 r x1 q1 ⟨ds, ks, e, ek, p1⟩ => ?_
  subst e
  refine dT.next S (x0.trans x1) xk p1 fun y F2 H2 r2 x2 q2 ⟨d, ed, p2⟩ => ?_
  obtain ⟨F3, x3, _, rd⟩ := q2.freeze x2 ed
  have x13 := x1.trans x3
  obtain ⟨h', n'⟩ := x13.keepN (p := p) upd_same n nd
  have q1' := q1.to x3
  obtain ⟨b, us, rfl, hb, lb⟩ := RepR.tuple (K := X.K) (w := G.w) (H := upd H p (.dT [])) x3.le q1' (xs := ds) rfl
  obtain rfl := RepL.keys lb ek
  refine ⟨h', ks, b, rfl, x3.le _ _ hb, ?_⟩
  have xw : Ext G.w F H F3 (upd H2 p (.dT [(ks, y)])) := (x0.trans x13).write hp h' n' nd
  exact k _ F3 _ (.oT [(ks, d)]) xw ⟨p, _, rfl, hp, upd_same, n', nd, .cons rd .nil⟩ p2
def dcGo (wg : WG) (wt : WT) (wk wv : WE') (P : SV → Prop) (δ0 : DEnv) : List D → SV → Prop
  | [], s => P s
  | d :: ds, s => wg d δ0 fun δ1 => wt δ1 (fun b => if b = true then wk δ1 (fun r2 => ∃ kd, r2 = .im kd ∧ wv δ1 (fun r => ∃ v, r.dat = some v ∧ putE s kd v fun s1 => dcGo wg wt wk wv P δ0 ds s1) fun _ => True) (fun _ => True) else dcGo wg wt wk wv P δ0 ds s) fun _ => True
def SV.rO : SV → R
  | .im d => .im d
  | .ol xs => .ol xs
  | .oK xs => .oK xs
  | .oT xs => .oT xs
  | .drw => .drw
def wDc (s0 : SV) (wi : WI) (wg : WG) (wt : WT) (wk wv : WE') (vs : List Nat) : WE' := fun δ P PX => wi δ (fun items => dcGo wg wt wk wv (fun s => P s.rO) (wipeD δ vs) items s0) PX
/-- the empty dict of the kind -/
def Em (o0 : HO) (s0 : SV) : Prop := (o0 = .dK [] ∧ s0 = .oK []) ∨ (o0 = .dT [] ∧ s0 = .oT [])
theorem Em.emp {o0 : HO} {s0 : SV} (e : Em o0 s0) : Emp o0 := e.elim (fun z => .inl z.1) fun z => .inr z.1
def DictAt (K : PySem.W.Frag) (F : Hp) (u : HO) : SV → Prop
  | .oK kvs => ∃ vs, u = .dK vs ∧ RepKV K F vs kvs
  | .oT kvs => ∃ vs, u = .dT vs ∧ RepKV K F vs kvs
  | _ => False
theorem DictAt.mono {u : HO} {s : SV} (s1 : Sub F F1) (d : DictAt K F u s) : DictAt K F1 u s := by
  cases s with
  | oK kvs => obtain ⟨vs, e, l⟩ := d; exact ⟨vs, e, l.mono s1⟩
  | oT kvs => obtain ⟨vs, e, l⟩ := d; exact ⟨vs, e, l.mono s1⟩
  | _ => exact d
theorem dc_of {o0 : HO} {s0 : SV} {wi : WI} {wg : WG} {ts vs : List Nat} {tt : TT} {tk tv : TE} (em : Em o0 s0) (hts : ∀ t ∈ ts, t ∈ vs) (ht : ∀ σ H Q, dTT K G wTrue wt σ H Q → tt σ H Q) (hk : ∀ σ H Q, dT K G wTrue wk σ H Q → tk σ H Q) (hv : ∀ σ H Q, dT K G wTrue wv σ H Q → tv σ H Q)
    {σ : L2.St} {H : Hp} {Q : VK} (h : dT K G W (wDc s0 wi wg wt wk wv vs) σ H Q) : tDG o0 (dTI K G W st wi) (dGT K G ts wg) tt tk tv vs σ H Q := by
  obtain ⟨F, δ, P, PX, S, q, k, xk⟩ := h
  refine ⟨F, δ, _, PX, S, q, fun J C F1 H1 items x1 c1 dw stc p1 => fun D hD => ?_, xk⟩
  obtain ⟨x1', n1, nd⟩ := new_dict (u := o0) x1.stay hD
  have d0 : DictAt K F1 o0 s0 := by
    rcases em with ⟨rfl, rfl⟩ | ⟨rfl, rfl⟩
    · exact ⟨[], rfl, .nil⟩
    · exact ⟨[], rfl, .nil⟩
  refine ⟨fun i m H => m = items.length - i ∧ i ≤ items.length ∧ ∃ F u sv, Ext G.w F1 H1 F H ∧ H D = some u ∧ F D = none ∧ DictAt K F u sv ∧ dcGo wg wt wk wv (fun s => P s.rO) (wipeD δ vs) (items.drop i) sv, ⟨_, rfl, Nat.zero_le _, F1, o0, s0, x1', upd_same, n1, d0, p1⟩, ?_⟩
  rintro i m H ⟨rfl, hi, F, u, sv, x2, hDl, hDf, da, go⟩
  obtain ⟨w1, w2, w3⟩ := dw F H (stc.ext c1 x2) x2.stay
  by_cases hlt : i < items.length
  · refine .inr ⟨w1 i hlt, fun H' => i + 1 ≤ items.length ∧ ∃ F u sv, Ext G.w F1 H1 F H' ∧ H' D = some u ∧ F D = none ∧ DictAt K F u sv ∧ dcGo wg wt wk wv (fun s => P s.rO) (wipeD δ vs) (items.drop (i + 1)) sv, fun H' n => ⟨items.length - (i + 1), by omega, rfl, n⟩, fun x H' y => ?_⟩
    have hd : items[i]? = some items[i] := List.getElem?_eq_getElem hlt
    have hdrop : items.drop i = items[i] :: items.drop (i + 1) := List.drop_eq_getElem_cons hlt
    rw [hdrop] at go
    obtain ⟨F', x3, rd⟩ := w3 i x H' _ hd y
    have S' : RepS K G F' H' (L2.wipe σ vs) (wipeD δ vs) := (S.to (x1.trans (x2.trans x3))).wipe vs
    refine ⟨F', wipeD δ vs, _, _, S', rd, go, fun σ2 δ2 o2 S2 p2 => ⟨wipe_only o2 hts, ?_⟩⟩
    refine ht _ _ _ ⟨F', δ2, _, _, S2, p2, fun b F3 H3 x4 p3 => ?_, xok_true⟩
    cases b with
    | false =>
      rw [if_neg Bool.false_ne_true] at p3 ⊢
      have x5 := x3.trans x4
      obtain ⟨h', n'⟩ := x5.keepN hDl hDf nd
      exact ⟨hlt, F3, u, sv, x2.trans x5, h', n', da.mono x5.fs, p3⟩
    | true =>
      rw [if_pos rfl] at p3 ⊢
      refine hk _ _ _ ⟨F3, δ2, _, _, S2.to x4, p3, fun yv F4 H4 r x5 q5 ⟨kd, ek, p4⟩ => ?_, xok_true⟩
      subst ek
      refine hv _ _ _ ⟨F4, δ2, _, _, (S2.to x4).to x5, p4, fun zv F5 H5 r x6 q6 ⟨v, er, pe⟩ => ?_, xok_true⟩
      obtain ⟨F6, x7, _, rd'⟩ := q6.freeze x6 er
      have x8 := ((x3.trans x4).trans x5).trans x7
      obtain ⟨h', n'⟩ := x8.keepN hDl hDf nd
      have da' := da.mono x8.fs
      have q5' := RepD.mono x7.fs q5
      have fin : ∀ {u' : HO} {sv' : SV}, DictAt K F6 u' sv' → dcGo wg wt wk wv (fun s => P s.rO) (wipeD δ vs) (items.drop (i + 1)) sv' → i + 1 ≤ items.length ∧ ∃ F u sv, Ext G.w F1 H1 F (upd H5 D u') ∧ (upd H5 D u') D = some u ∧ F D = none ∧ DictAt K F u sv ∧ dcGo wg wt wk wv (fun s => P s.rO) (wipeD δ vs) (items.drop (i + 1)) sv := fun {u' sv'} da2 p5 =>
        ⟨hlt, F6, u', sv', (x2.trans x8).write hD h' n' nd, upd_same, n', da2, p5⟩
      cases sv with
      | oK kvs =>
        obtain ⟨kk, ek, hl, p5⟩ := pe
        obtain ⟨us, rfl, l⟩ := da'
        obtain rfl := RepD.key q5' ek
        exact ⟨_, DPut.k h' (by rw [RepKV.length l]; exact hl), fin (sv' := .oK (putD kvs kk v)) ⟨_, rfl, l.put rd'⟩ p5⟩
      | oT kvs =>
        obtain ⟨ds, ks, rfl, ek, hl, p5⟩ := pe
        obtain ⟨us, rfl, l⟩ := da'
        obtain ⟨b, vs', rfl, hb, lb⟩ := RepR.tuple (K := K) (w := G.w) (H := H5) x7.le (r := .im (.tuple ds)) q5' (xs := ds) rfl
        obtain rfl := RepL.keys lb ek
        exact ⟨_, DPut.t h' (x7.le _ _ hb) (by rw [RepKV.length l]; exact hl), fin (sv' := .oT (putD kvs ks v)) ⟨_, rfl, l.put rd'⟩ p5⟩
      | _ => exact pe.elim
  · have hn : i = items.length := by omega
    subst hn
    rw [List.drop_length] at go
    refine .inl ⟨w2, k _ F H sv.rO (x1.trans x2) ?_ go⟩
    cases sv with
    | oK kvs => obtain ⟨us, rfl, l⟩ := da; exact ⟨D, us, rfl, x1.none hD, hDl, hDf, nd, l⟩
    | oT kvs => obtain ⟨us, rfl, l⟩ := da; exact ⟨D, us, rfl, x1.none hD, hDl, hDf, nd, l⟩
    | _ => exact da.elim
theorem de_dc {o0 : HO} {s0 : SV} {scope : Scope} {own : List (Str × Nat)} {wi : WI} {wg : WG} {ts : List Nat} (em : Em o0 s0) (hu : X.A.units + 1 < cLine) (hc : X.calm = true) (hN : X.N.Nodup) (hi : DI X G W st tg iter wi) (ok : BlkOk X.N X.env.scope scope own)
    (hg : ∀ (s : Shared) (H : Hp) (C : Addr) (cl : List (Str × Addr)) (fp : List Addr), DG (X.blk s H scope (compEnvC scope cl C X.env) fp) G ts tg wg)
    (hk : ∀ (s : Shared) (H : Hp) (C : Addr) (cl : List (Str × Addr)) (fp : List Addr), DE (X.blk s H scope (compEnvC scope cl C X.env) fp) G wTrue kx wk) (hv : ∀ (s : Shared) (H : Hp) (C : Addr) (cl : List (Str × Addr)) (fp : List Addr), DE (X.blk s H scope (compEnvC scope cl C X.env) fp) G wTrue vx wv)
    (hts : ∀ t ∈ ts, t ∈ own.map (·.2) := by decide) (hs : ∀ x, foldedSetIterable iter X.env x = pure x := by intro _; rfl) : DE X G W (.DictComp kx vx [⟨tg, iter, [], 0⟩] scope pos) (wDc s0 wi wg wtYes wk wv (own.map (·.2))) :=
  PE.imp (pe_dG em.emp hu hc hN hi ok hg (fun _ _ _ _ _ => pts_nil) hk hv hs) fun σ H Q h => dc_of em hts (fun σ H Q ⟨F, δ, P, PX, S, q, k, xk⟩ => k true F H S.ext.stay q) (fun _ _ _ h => h) (fun _ _ _ h => h) h
/-! ### len of a dict -/
def kLenK : KC := fun rs P => ∃ r kvs, rs = [r] ∧ r.dK = some kvs ∧ P (.im (.int (kvs.length : Nat)))
def kLenT : KC := fun rs P => ∃ r kvs, rs = [r] ∧ r.dT = some kvs ∧ P (.im (.int (kvs.length : Nat)))
theorem callD_lenT : CallD K rLenT kLenT := by
  rintro w H0 F H vs rs P Q x0 q ⟨r, kvs, rfl, e, p⟩ k
  cases q with
  | cons a t =>
    cases t
    obtain ⟨pp, us, rfl, h, n, l⟩ := a.isT e
    exact ⟨pp, us, rfl, h, by rw [RepKV.length l]; exact k _ F H (.im _) x0 (.int _) p⟩
theorem callD_lenK : CallD K (fun xs H Q => ∃ a kvs, xs = [V.ref a] ∧ H a = some (.dK kvs) ∧ Q (.int kvs.length) H) kLenK := by
  rintro w H0 F H vs rs P Q x0 q ⟨r, kvs, rfl, e, p⟩ k
  cases q with
  | cons a t =>
    cases t
    obtain ⟨pp, us, rfl, h, n, l⟩ := a.isK e
    exact ⟨pp, us, rfl, h, by rw [RepKV.length l]; exact k _ F H (.im _) x0 (.int _) p⟩
/-! ### a text times an int -/
def repS (s : Str) (n : Int) : Str := ⟨(List.replicate n.toNat s.cps).foldl (· ++ ·) #[]⟩
theorem rep_size (a : Array Nat) : ∀ (m : Nat) (acc : Array Nat), ((List.replicate m a).foldl (· ++ ·) acc).size = acc.size + m * a.size
  | 0, acc => by simp
  | m + 1, acc => by rw [List.replicate_succ, List.foldl_cons, rep_size a m, Array.size_append, Nat.succ_mul]; omega
theorem op_mulS : OpR X (binaryOp .Mult) (fun x y H Q => ∃ (s : Str) (n : Int), x = .str s ∧ y = .int n ∧ 0 ≤ n ∧ n ≤ 1000 ∧ s.length ≤ 1000 ∧ Q (.str (repS s n)) H) := by
  intro pins s σ H x y v u Q I rx ry h
  obtain ⟨z, n, rfl, rfl, h0, h1, h2, q⟩ := h
  obtain ⟨t, rfl⟩ := rx
  obtain ⟨t2, rfl⟩ := ry
  have big : z.length * n.toNat ≤ 1000000 := by
    have := Nat.mul_le_mul h2 (show n.toNat ≤ 1000 by omega)
    omega
  have c0 : (decide (n < -(2 ^ 63 : Int)) || decide (n ≥ 2 ^ 63)) = false := by
    rw [decide_eq_false (by omega), decide_eq_false (by omega)]; rfl
  refine P.mul_str c0 (fun a _ => ?_) (fun a _ => ?_) ?_
  · intro bad
    have e1 : ((z.length : Int)) * n ≤ 1000000 := by
      have h3 : ((z.length * n.toNat : Nat) : Int) ≤ 1000000 := Int.ofNat_le.mpr big
      rw [Int.natCast_mul, Int.toNat_of_nonneg h0] at h3
      exact h3
    have e2 := Int.le_ediv_of_mul_le (c := n) (a := (z.length : Int)) (b := 2 ^ 63 - 1) (by omega) (by omega)
    omega
  · unfold Builtin.Str.tooLong
    rw [sizeLine_eq]
    exact decide_eq_false (by omega)
  · have fin : ∀ u : Tok, ∀ s2 : Shared, Inv X pins σ H s2 → ∃ y H', Inv X pins σ H' s2 ∧ RelV y (Value.str (repS z n) u) ∧ Q y H' := fun u s2 I2 => ⟨.str (repS z n), H, I2, ⟨u, rfl⟩, q⟩
    by_cases c1 : n < 1
    · rw [if_pos c1]
      have e : repS z n = Str.empty := by
        have : n = 0 := by omega
        subst this
        rfl
      rw [e] at fin
      exact ⟨by decide, fin _ _ (I.tok _)⟩
    · rw [if_neg c1]
      by_cases c2 : (n == 1 || z.length == 0) = true
      · rw [if_pos c2]
        have e : repS z n = z := by
          simp only [Bool.or_eq_true, beq_iff_eq] at c2
          rcases c2 with rfl | c2
          · simp [repS]
          · have e0 : z.cps = #[] := Array.eq_empty_of_size_eq_zero c2
            have : ∀ m : Nat, (List.replicate m (#[] : Array Nat)).foldl (· ++ ·) #[] = #[] := fun m => by
              induction m with
              | zero => rfl
              | succ m ih => rw [List.replicate_succ, List.foldl_cons]; exact ih
            unfold repS
            rw [e0, this]
            cases z
            simp_all
        rw [e] at fin
        exact fin _ _ I
      · rw [if_neg c2]
        refine ⟨?_, fin _ _ (I.tok _)⟩
        show (repS z n).cps.size ≤ sizeLine
        unfold repS
        rw [rep_size, sizeLine_eq]
        have b2 : n.toNat * z.cps.size ≤ 1000 * 1000 := Nat.mul_le_mul (by omega) h2
        show 0 + _ ≤ _
        omega
def kMulS : KO := fun r1 r2 P => ∃ s n, r1 = .im (.str s) ∧ r2 = .im (.int n) ∧ 0 ≤ n ∧ n ≤ 1000 ∧ s.length ≤ 1000 ∧ P (.im (.str (repS s n)))
theorem opd_mulS : OpD K (fun x y H Q => ∃ (s : Str) (n : Int), x = .str s ∧ y = .int n ∧ 0 ≤ n ∧ n ≤ 1000 ∧ s.length ≤ 1000 ∧ Q (.str (repS s n)) H) kMulS := by
  rintro w H0 F H x y r1 r2 P Q x0 q1 q2 ⟨s, n, rfl, rfl, h0, h1, h2, p⟩ k
  cases q1; cases q2
  exact ⟨s, n, rfl, rfl, h0, h1, h2, k _ F H (.im _) x0 (.str _) p⟩
theorem de_mulS (ha : DE X G W a wa) (hb : DE X G W b wb) : DE X G W (.BinOp a .Mult b pos) (wOp kMulS wa wb) := de_op op_mulS opd_mulS ha hb
/-! ### a list taken apart -/
def wgUnl (n : Nat) (gs : WGs) : WG := fun d δ P => ∃ ds, d = .list ds ∧ ds.length = n ∧ gs ds δ P
theorem dg_unl {ts : List Nat} {gs : WGs} {n k : Nat} (hc : X.calm = true) (h : DGs X G ts es gs) (hn : (assignEach es X.env).length = n := by rfl) (hst : (assignEach es X.env).findIdx? (·.1) = none := by rfl) : DG X G ts (.Tuple es k pos) (wgUnl n gs) :=
  PG.imp (pg_lst hc h hn hst) fun v σ H Q ⟨F, δ, d, P, S, r, ⟨ds, e, hl, p⟩, k⟩ => by
    subst e
    cases r with
    | lst ha l => exact ⟨_, _, rfl, .inl (.inl (S.ext.le _ _ ha)), by rw [RepL.length l]; exact hl, F, δ, ds, P, S, l, p, k⟩
end
end DW
set_option Elab.async false
set_option linter.all false
set_option maxRecDepth 100000
set_option maxHeartbeats 4000000
namespace DW
open PySem PySem.Spec L2

section
variable {K : PySem.W.Frag} {w : Option Dw} {G : Gd} {F F1 F2 H H1 H2 : Hp} {σ : L2.St} {δ : DEnv}
variable {X : Cx} {W : WX} {st : Bool} {tg iter e a b c elt o kx vx : Expr} {es rest : List Expr} {we wa wb wc wk wv wo : WE'} {wt wu : WT} {waa : WA} {pos p np pos' apos cpos : Pos} {s b₀ : Stmt} {body suite : List Stmt} {ws wss : WS}
/-- X(), X an own exception class without own __init__ -/
theorem pmk_own0 {C : Addr} {bmB : List Value} {B newId initId : String} {x : Str} {p : Pos} (F : ExcBaseFacts B newId initId bmB) (q : PySem.W.excIn X.K C bmB newId = true) (gC : X.mg x = some (.ref C)) (kC : PySem.W.keepIn X.K (.ref C) = true)
    (r : Raises X (.ref C)) (hg : Gl X x) (hdb : (x == ("__debug__" : Str)) = false := by decide) : PMk X (.Call (.Name x p) [] [] pos) (fun _ H Q => Q (.ref C) none H) := fun pins s σ H Q I h => by
  refine wpAny_Call_Name_kw (ld_glob I hg gC (PySem.W.callWith_K0 I.kIn kC ?_) hdb)
  obtain ⟨bm, N, nm, qn, bs, hdct, sn, sub, ab, col, dd, k0, k1, k2, k3, k5, mN, hC, hN, hni, T⟩ := exc_obj I.kIn q
  refine wpAny_call_exc_subT F T hC hN hni (fun h' e hm => ?_) (Nat.zero_le _)
  exact mk_of I hm r h (I.hok.gone hm.new)
/-- raise X() -/
def sRaise0 (C : Addr) : WS := fun E _ => E.ex ⟨C, []⟩
theorem ds_raise0 {C : Addr} (hc : X.calm = true) (tk : Takes X W) (he : PMk X e (fun _ H Q => Q (.ref C) none H)) : DS X G W (.Raise (some e) none pos) (sRaise0 C) := PS.imp (ps_raise hc tk he) fun D σ H ⟨F, δ, E, S, q, k⟩ =>
  k.ex ⟨C, []⟩ F H (.ref C) none σ S.ext ⟨rfl, fun z => absurd rfl z⟩ q
/-- try: body, except c: suite; the suite returns -/
def sTry (m : Addr → Option Bool) (ws wss : WS) : WS := fun E δ => ws { E with ex := fun x => (m x.C = some true ∧ ∀ n, wss { E with nx := fun _ => False, bk := fun _ => False, ct := fun _ => False } (List.replicate n none)) ∨ (m x.C = some false ∧ E.ex x) } δ
theorem RepS.bare (x : Ext G.w G.F0 G.H0 F H) (σ : L2.St) : RepS K G F H σ (List.replicate σ.length none) := by
  have no : ∀ (i : Nat) (s : SV), (List.replicate σ.length (none : Option SV))[i]? = some (some s) → False := fun i s e => by
    rw [List.getElem?_replicate] at e
    split at e <;> cases e
  exact ⟨x, by rw [List.length_replicate], fun i s e => (no i s e).elim, fun i s p e => (no i s e).elim, fun i j s t p _ e => (no i s e).elim⟩
theorem ds_try {x : Str} {C : Addr} {m : Addr → Option Bool} (hm : ∀ D, m D = PySem.W.exmOne X.K (.ref D) (.ref C)) (hs : X.stack = X.env :: X.outer) (hf : X.env.frame = some X.env.locals) (hc : Names X x (.ref C)) (tk : Takes X W)
    (hb : ∀ (W' : WX) (pn : List (Addr × Obj)) (xe : Value → Shared → Prop), Takes (X.tr pn xe) W' → DSs (X.tr pn xe) G W' body ws) (hsu : ∀ (a : Addr) (pn : List (Addr × Obj)), DSs (X.suite a pn) G wTrue (b₀ :: suite) wss) :
    DS X G W (.Try body [.ExceptHandler (some (.Name x np)) none (b₀ :: suite) pos'] [] [] pos) (sTry m ws wss) :=
  PS.imp (ps_try_only (tb := fun W' => dTS X.K G W' ws) (ts := fun _ _ _ => dTS X.K G wTrue wss) (Wout := W) hs hf hc tk (fun W' pn xe tk' _ => hb W' pn xe tk') (fun a oe cls d pn _ _ => hsu a _)) fun D σ H ⟨F, δ, E, S, q, k⟩ => by
    refine ⟨F, δ, _, S, q, k.nx, k.bk, k.ct, k.rt, fun x' F' H' cls d σ' xt rx px => ?_⟩
    obtain ⟨rfl, rx2⟩ := rx
    rcases px with ⟨em, px⟩ | ⟨em, px⟩
    · refine ⟨true, (hm _).symm.trans em, fun _ a ha => ⟨F', _, _, RepS.bare xt σ', px σ'.length, fun _ _ _ _ _ _ z => z.elim, fun _ _ _ _ _ _ z => z.elim, fun _ _ _ _ _ _ z => z.elim, k.rt, fun _ _ _ _ _ _ _ _ _ => trivial⟩, (fun z => nomatch z)⟩
    · exact ⟨false, (hm _).symm.trans em, (fun z => nomatch z), fun _ => k.ex x' F' H' _ d σ' xt ⟨rfl, rx2⟩ px⟩
/-- nothing is let out: a def with a try -/
abbrev wFalse : WX := fun _ _ _ _ => False
theorem takes_nox : Takes X.nox wFalse := fun u s' ⟨_, _, _, _, _, _, _, _, _, _, _, _, _, _, _, _, z⟩ => z.elim
theorem takes_tr {xe : Value → Shared → Prop} {pn : List (Addr × Obj)} {W' : WX} (tk : Takes (X.tr pn xe) W') : Takes (X.tr pn xe) W' := tk
end
section
variable {P : Program} {w : World} {K : PySem.W.Frag} {mg : Str → Option Value} {base : Heap}
theorem dfn_okF {x qual : Str} {st : Stmt} {f : Addr} {fd : FuncData} {N ps : List Str} {k n : Nat} {S : DSpec} {ws : WS} (Fn : Fun K x qual st f fd) (sc : FnScope N ps (defScope st)) (hn : ps.length = n) (hN : n ≤ N.length)
    (body : ∀ (cdv : Value) (A : Around) (outer : List Env) (s : Shared) (H : Hp) (E : XK) (G : Gd), Room k (A.deeper (PyProof.Rows.envOfC qual (defScope st) s.heap.objs.size f cdv)) → DSs (cxOf CX0 P w K mg base N qual (defScope st) f cdv A outer s H E).nox G wFalse (defBody st) ws)
    (sem : ∀ rs P, rs.length = n → rs.all plainR = true → S rs P (fun _ => False) → ws (fnEnds P fun _ => False) (startD N rs)) (hS : ∀ rs P PX, S rs P PX → S rs P fun _ => False) : FnOk P w K mg base CX0 (k + 1) f fd ps (dSp K n S) := by
  refine Fn.ok sc (fun vs H Q E h => (dSp_len vs H Q E h).trans hn.symm) fun cdv A outer s H vs Q E hr h => ?_
  obtain ⟨dw, F, rs, PP, PX, x, q, g, hl, hs, kq, _⟩ := h
  refine ⟨_, body cdv A outer s H E ⟨dw, F, H⟩ hr, F, _, fnEnds PP fun _ => False, start_ok x q (by rw [hl]; exact hN), sem rs PP hl g (hS _ _ _ hs), ?_⟩
  refine ⟨fun σ' F' H' δ' _ S' p => kq .non F' H' (.im .none) S'.ext .non rfl p, fun _ _ _ _ _ _ z => z.elim, fun _ _ _ _ _ _ z => z.elim, fun v F' H' r x' r' ⟨gv, p⟩ => kq v F' H' r x' r' gv p, fun _ _ _ _ _ _ _ _ z => z.elim⟩
/-- a def of the law's, by its name -/
structure CalX (P : Program) (w : World) (K : PySem.W.Frag) (mg : Str → Option Value) (base : Heap) (k : Nat) (x : Str) (sp : Sp) : Prop where
  ex : ∃ (f : Addr) (fd : FuncData) (ps : List Str), FnOk P w K mg base (L2.CX P w) k f fd ps sp ∧ mg x = some (.ref f) ∧ PySem.W.keepIn K (.ref f) = true ∧ Binds K fd ps []
end
section
variable {X : Cx} {G : Gd} {W : WX} {e : Expr} {es : List Expr} {waa : WA} {pos p : Pos} {x : Str} {n k j : Nat} {S : DSpec}
/-- a call of a def that lets nothing out -/
theorem de_c (c : C8.Cal X.prog X.w X.K X.mg X.base k x (dSp X.K n S) []) (hS : ∀ rs P PX PX', S rs P PX → S rs P PX') (hr : Room j X.A) (hk : k ≤ j) (hg : Gl X x) (ha : DA X G W (e :: es) waa)
    (hdb : (x == ("__debug__" : Str)) = false := by decide) (he : starEach (e :: es) X.env = (false, eval e X.env) :: starEach es X.env := by rfl) (hpl : (backTo pos (starEach es X.env)).any (·.1) = false := by rfl) : DE X G W (.Call (.Name x p) (e :: es) [] pos) (wCallF n S waa) :=
  de_call (C8.pe_c c hr hk hg ha hdb he hpl) hS
/-- a call of a def that may raise -/
theorem de_cX (c : CalX X.prog X.w X.K X.mg X.base k x (dSp X.K n S)) (tk : Takes X W) (hr : Room j X.A) (hk : k ≤ j) (hg : Gl X x) (ha : DA X G W (e :: es) waa)
    (hdb : (x == ("__debug__" : Str)) = false := by decide) (he : starEach (e :: es) X.env = (false, eval e X.env) :: starEach es X.env := by rfl) (hpl : (backTo pos (starEach es X.env)).any (·.1) = false := by rfl) : DE X G W (.Call (.Name x p) (e :: es) [] pos) (wCallF n S waa) := by
  obtain ⟨f, fd, ps, F, hm, kp, b⟩ := c.ex
  exact de_callX (pe_callS F (hr.mono hk) hg hm kp b (passAt tk) ha hdb he hpl)
end
end DW
set_option Elab.async false
set_option linter.all false
set_option maxRecDepth 100000
set_option maxHeartbeats 4000000
namespace DW
open PySem PySem.Spec L2
/-! ### the law's drawer: the script is copied, numbers are handed out -/
abbrev rAbs : List V → Hp → VK → Prop := fun xs H Q => ∃ i, xs = [.int i] ∧ Q (.int (if i < 0 then -i else i)) H
abbrev rInt : List V → Hp → VK → Prop := fun xs H Q => (∃ i, xs = [.int i] ∧ Q (.int i) H) ∨ ∃ k, xs = [.bl k] ∧ Q (.int (if k then 1 else 0)) H
abbrev rListOf (K : PySem.W.Frag) : List V → Hp → VK → Prop := fun xs H Q => ∃ p ys, xs = [.ref p] ∧ (SqL K H p ys ∨ SqT K H p ys) ∧ ∀ l, H l = none → Q (.ref l) (upd H l (.lst ys))
abbrev rAdd : R2 := rI0 fun i j => .int (i + j)
abbrev rLt : R2 := rI0 fun i j => .bl (decide (i < j))
abbrev rGt : R2 := rI0 fun i j => .bl (decide (j < i))
abbrev rMod : R2 := rI (fun _ j => 0 < j) fun i j => .int (i % j)
abbrev rMul : R2 := rI CMul fun i j => .int (i * j)
abbrev rPow : R2 := rI CPow fun i j => .int (i ^ j.toNat)
abbrev rDiv : R2 := rI CDiv fun i j => .int (i / j)
abbrev rDivN : R2 := fun x y H Q => ∃ n m : Nat, x = .int (n : Int) ∧ y = .int (m : Int) ∧ (1 ≤ m ∧ m < 1073741824) ∧ Q (.int ((n / m : Nat) : Int)) H
abbrev rd (K : PySem.W.Frag) (j : Int) : TE := tOp (rIxL K) (tVar 0) (tC (.int j))
abbrev wr (j : Int) : TG := gSub (tVar 0) (tC (.int j)) rSetL
abbrev toI (t : TE) : TE := tCB rInt (tCons t tNil)
def t_take (K : PySem.W.Frag) : TS :=
  tSeq (tIfS (tAnd (tTest (tOp rEq (rd K 2) (tC (.int 0)))) (tTest (tOp rLt (rd K 1) (tCB (rLen K) (tCons (rd K 0) tNil)))))
    (tSeq (tAsg (tCB rAbs (tCons (toI (tOp (rIxL K) (rd K 0) (rd K 1))) tNil)) (wr 2))
    (tSeq (tAsg (tOp rAdd (rd K 1) (tC (.int 1))) (wr 1))
    (tIfS (tTest (tOp rLt (rd K 2) (tOp rPow (tC (.int 10)) (tC (.int 18))))) (tSeq (tAsg (toI (rd K 2)) (gName 2)) (tSeq (tAsg (tC (.int 0)) (wr 2)) (tRet (tOp rMod (tVar 2) (tVar 1))))) tNext)))
    tNext)
  (tSeq (tIfS (tTest (tOp rGt (rd K 2) (tC (.int 0)))) (tSeq (tAsg (tOp rMod (toI (rd K 2)) (tVar 1)) (gName 3)) (tSeq (tAsg (tOp rDivN (toI (rd K 2)) (tVar 1)) (wr 2)) (tRet (tVar 3)))) tNext)
  (tSeq (tAsg (tOp rMod (toI (tOp rAdd (tOp rMul (rd K 3) (tC (.int 48271))) (tC (.int 11)))) (tC (.int 2147483647))) (wr 3))
  (tRet (tOp rMod (toI (tOp rDiv (rd K 3) (tC (.int 3)))) (tVar 1)))))
def t_begin (K : PySem.W.Frag) : TS :=
  tSeq (tAsg (tC (.int 1)) (gName 1))
  (tSeq (tFor (iList K (tVar 0)) (gName 2) (tAsg (tOp rMod (tOp rAdd (tOp rAdd (tOp rMul (tVar 1) (tC (.int 69621))) (tOp rMod (toI (tVar 2)) (tC (.int 2147483629)))) (tC (.int 7))) (tC (.int 2147483647))) (gName 1)))
  (tRet (tLst (tCons (tCB (rListOf K) (tCons (tVar 0) tNil)) (tCons (tC (.int 0)) (tCons (tC (.int 0)) (tCons (tVar 1) tNil)))))))
/-- a number below m, whichever -/
def S_take : DSpec := fun rs P _ => ∃ m : Int, rs = [.drw, .im (.int m)] ∧ 1 ≤ m ∧ m < 1073741824 ∧ ∀ r, 0 ≤ r → r < m → P (.im (.int r))
section
variable {K : PySem.W.Frag} {σ : L2.St} {H : Hp} {a : Addr} {Q : VK} {xs : List V}
theorem rd_run {j : Int} {v : V} (h0 : σ[0]? = some (some (.ref a))) (hH : H a = some (.lst xs)) (hj : atI xs j = some v) (q : Q v H) : rd K j σ H Q := ⟨_, h0, _, _, _, _, rfl, rfl, SqL.of hH, hj, q⟩
theorem wr_run {j : Int} {v : V} {i : Nat} {Qs : L2.St → Hp → Prop} (h0 : σ[0]? = some (some (.ref a))) (hH : H a = some (.lst xs)) (hj : ixN xs.length j = some i) (q : Qs σ (upd H a (.lst (xs.set i v)))) : wr j v σ H Qs := ⟨_, h0, _, _, _, _, rfl, rfl, hH, hj, q⟩
end
theorem big_abs {n : Int} (h : Big n) : Big (if n < 0 then -n else n) := by
  unfold Big at *
  split
  · rw [Int.natAbs_neg]; exact h
  · exact h
theorem big_div {r : Int} {m : Nat} (h0 : 0 ≤ r) (h : Big r) : Big ((r.toNat / m : Nat) : Int) := by
  unfold Big at *
  rw [Int.natAbs_natCast]
  refine Nat.lt_of_le_of_lt (Nat.div_le_self _ _) ?_
  rw [show r.toNat = r.natAbs by omega]
  exact h
theorem Ext.turn {w : Option Dw} {F H : Hp} {d : Dw} {i : Nat} {r c : Int} (x : Ext w F H F H) (e : w = some d) (h1 : 0 ≤ r) (h2 : Big r) (h3 : 0 ≤ c) (h4 : c < 2147483647) : Ext w F H F (upd H d.a (.lst [.ref d.s, .int i, .int r, .int c])) where
  fs := Sub.refl
  le := fun b o eb => by
    have n : b ≠ d.a := fun z => by subst z; rw [(x.dr d e).free] at eb; cases eb
    rw [upd_ne n]; exact x.le b o eb
  hs := fun b o eb nd => by rw [upd_ne (fun z => nd d e z.symm)]; exact eb
  new := fun b eb => .inl eb
  dr := fun d' e' => by
    obtain rfl : d = d' := by rw [e] at e'; exact Option.some.inj e'
    have o := x.dr d e
    exact ⟨o.free, ⟨i, r, c, upd_same, h1, h2, h3, h4⟩, o.copy, o.few, o.big⟩
theorem upd_upd {H : Hp} {a : Addr} {u v : HO} : upd (upd H a u) a v = upd H a v := by
  funext b
  by_cases h : b = a
  · subst h; rw [upd_same, upd_same]
  · rw [upd_ne h, upd_ne h, upd_ne h]

abbrev nTake : List Str := ["d", "many", "small", "digit"]
abbrev ph3 (K : PySem.W.Frag) : TS := tSeq (tAsg (tOp rMod (toI (tOp rAdd (tOp rMul (rd K 3) (tC (.int 48271))) (tC (.int 11)))) (tC (.int 2147483647))) (wr 3)) (tRet (tOp rMod (toI (tOp rDiv (rd K 3) (tC (.int 3)))) (tVar 1)))
abbrev ph2 (K : PySem.W.Frag) : TS := tSeq (tIfS (tTest (tOp rGt (rd K 2) (tC (.int 0)))) (tSeq (tAsg (tOp rMod (toI (rd K 2)) (tVar 1)) (gName 3)) (tSeq (tAsg (tOp rDivN (toI (rd K 2)) (tVar 1)) (wr 2)) (tRet (tVar 3)))) tNext) (ph3 K)
theorem sem_take {K : PySem.W.Frag} {vs : List V} {H : Hp} {Q : VK} {E : XK} (h : dSp K 2 S_take vs H Q E) : t_take K { nx := fun _ H' => Q .non H', rt := Q } (L2.start nTake vs) H := by
  obtain ⟨w, F, rs, P, PX, x, q, g, hl, ⟨m, rfl, m1, m2, p⟩, kq, _⟩ := h
  cases q with
  | cons q1 q2 =>
  cases q2 with
  | cons q2 q3 =>
  cases q3
  cases q2
  obtain ⟨d, ew, rfl⟩ := q1
  have o := x.dr d ew
  obtain ⟨i, r, c, hd, r0, rb, c0, c1⟩ := o.at_
  have hs : H d.s = some (.lst (d.ns.map V.int)) := x.le _ _ o.copy
  have ne : d.s ≠ d.a := fun z => by have := o.copy; rw [z, o.free] at this; cases this
  have fin : ∀ (i : Nat) (r c : Int) (z : Int), 0 ≤ r → Big r → 0 ≤ c → c < 2147483647 → 0 ≤ z → z < m → Q (.int z) (upd H d.a (.lst [.ref d.s, .int i, .int r, .int c])) := fun i r c z h1 h2 h3 h4 h5 h6 => kq _ _ _ (.im (.int z)) (x.turn ew h1 h2 h3 h4) (.int z) rfl (p z h5 h6)
  have third : ∀ (H1 : Hp) (i : Nat) (r c : Int) (a b : Option V), H1 d.a = some (.lst [.ref d.s, .int i, .int r, .int c]) → (∀ u, upd H1 d.a u = upd H d.a u) → 0 ≤ r → Big r → 0 ≤ c → c < 2147483647 → ph3 K { nx := fun _ H' => Q .non H', rt := Q } [some (.ref d.a), some (.int m), a, b] H1 := by
    intro H1 i r c a b hd hu h1 h2 h3 h4
    have e1 : 0 ≤ (c * 48271 + 11) % 2147483647 := Int.emod_nonneg _ (by decide)
    have e2 : (c * 48271 + 11) % 2147483647 < 2147483647 := Int.emod_lt_of_pos _ (by decide)
    refine rd_run rfl hd rfl ⟨_, _, rfl, rfl, .inl ⟨by omega, by omega⟩, _, _, rfl, rfl, .inl ⟨_, rfl, _, _, rfl, rfl, (show (0 : Int) < 2147483647 by decide), wr_run rfl hd rfl ?_⟩⟩
    refine rd_run rfl upd_same rfl ⟨_, _, rfl, rfl, ⟨by decide, by decide⟩, .inl ⟨_, rfl, _, rfl, _, _, rfl, rfl, by omega, ?_⟩⟩
    rw [hu]
    exact fin i r _ _ h1 h2 e1 e2 (Int.emod_nonneg _ (by omega)) (Int.emod_lt_of_pos _ (by omega))
  have second : ∀ (H1 : Hp) (i : Nat) (r c : Int) (a b : Option V), H1 d.a = some (.lst [.ref d.s, .int i, .int r, .int c]) → (∀ u, upd H1 d.a u = upd H d.a u) → 0 ≤ r → Big r → 0 ≤ c → c < 2147483647 → ph2 K { nx := fun _ H' => Q .non H', rt := Q } [some (.ref d.a), some (.int m), a, b] H1 := by
    intro H1 i r c a b hd hu h1 h2 h3 h4
    refine rd_run rfl hd rfl ⟨_, _, rfl, rfl, _, rfl, ?_⟩
    by_cases hr : 0 < r
    · show (if _ = true then _ else _); rw [if_pos (decide_eq_true hr)]
      refine rd_run rfl hd rfl (.inl ⟨_, rfl, _, rfl, _, _, rfl, rfl, by omega, ?_⟩)
      refine rd_run rfl hd rfl (.inl ⟨_, rfl, _, rfl, r.toNat, m.toNat, by rw [Int.toNat_of_nonneg h1], by rw [Int.toNat_of_nonneg (by omega)], ⟨by omega, by omega⟩, wr_run rfl hd rfl ⟨_, rfl, ?_⟩⟩)
      rw [hu]
      exact fin i _ c _ (Int.natCast_nonneg _) (big_div h1 h2) h3 h4 (Int.emod_nonneg _ (by omega)) (Int.emod_lt_of_pos _ (by omega))
    · show (if _ = true then _ else _); rw [if_neg (by simpa using hr)]
      exact third H1 i r c a b hd hu h1 h2 h3 h4
  show tIfS _ _ _ _ [some (.ref d.a), some (.int m), none, none] H
  refine rd_run rfl hd rfl ⟨rfl, _, rfl, ?_⟩
  by_cases hr : r = 0
  · subst hr
    show (if _ = true then _ else _); rw [if_pos (by decide)]
    refine rd_run rfl hd rfl (rd_run rfl hd rfl ⟨_, _, rfl, .inl ⟨_, SqL.of hs, rfl⟩, _, _, rfl, rfl, _, rfl, ?_⟩)
    show (if decide (_ < ((List.map V.int _).length : Int)) = true then _ else _)
    rw [List.length_map]
    by_cases hi : i < d.ns.length
    · rw [if_pos (decide_eq_true (by omega))]
      have hz : atI (d.ns.map V.int) (i : Int) = some (.int d.ns[i]) := by
        unfold atI ixN
        rw [List.length_map, if_pos (Int.natCast_nonneg _), if_pos (by omega)]
        simp [hi]
      have bz : Big d.ns[i] := o.big _ (List.getElem_mem hi)
      generalize d.ns[i] = z at hz bz
      have ba := big_abs bz
      have na : 0 ≤ (if z < 0 then -z else z) := by split <;> omega
      refine rd_run rfl hd rfl (rd_run rfl hd rfl ⟨_, _, _, _, rfl, rfl, SqL.of hs, hz, .inl ⟨_, rfl, _, rfl, ?_⟩⟩)
      generalize (if z < 0 then -z else z) = y at ba na
      refine wr_run rfl hd rfl ?_
      refine rd_run rfl upd_same rfl ⟨_, _, rfl, rfl, wr_run rfl upd_same rfl ?_⟩
      rw [upd_upd]
      refine rd_run rfl upd_same rfl ⟨_, _, rfl, rfl, ⟨by decide, by decide, by decide⟩, _, _, rfl, rfl, _, rfl, ?_⟩
      show (if _ = true then _ else _)
      by_cases hy : y < 10 ^ (18 : Int).toNat
      · rw [if_pos (decide_eq_true hy)]
        refine rd_run rfl upd_same rfl (.inl ⟨_, rfl, ?_⟩)
        refine wr_run rfl upd_same rfl ⟨_, rfl, _, rfl, _, _, rfl, rfl, by omega, ?_⟩
        rw [upd_upd]
        exact fin (i + 1) 0 c _ (by decide) (Nat.two_pow_pos _) c0 c1 (Int.emod_nonneg _ (by omega)) (Int.emod_lt_of_pos _ (by omega))
      · rw [if_neg (by simpa using hy)]
        exact second _ (i + 1) y c none none upd_same (fun _ => upd_upd) na ba c0 c1
    · rw [if_neg (by simp; omega)]
      exact second H i 0 c none none hd (fun _ => rfl) r0 rb c0 c1
  · show (if _ = true then _ else _); rw [if_neg (by simp [hr])]
    exact second H i r c none none hd (fun _ => rfl) r0 rb c0 c1

/-- the drawer is made -/
def spBegin (K : PySem.W.Frag) : Sp := fun vs H Q _ => ∃ (a : Addr) (ns : List Int), vs = [.ref a] ∧ SqL K H a (ns.map V.int) ∧ ∀ (H' : Hp) (p q : Addr) (c : Int), Sub H H' → H p = none → H q = none → p ≠ q →
  H' q = some (.lst (ns.map V.int)) → H' p = some (.lst [.ref q, .int 0, .int 0, .int c]) → 0 ≤ c → c < 2147483647 → Q (.ref p) H'
abbrev nBegin : List Str := ["script", "seed", "cell"]
theorem sem_begin {K : PySem.W.Frag} {vs : List V} {H : Hp} {Q : VK} {E : XK} (h : spBegin K vs H Q E) : t_begin K { nx := fun _ H' => Q .non H', rt := Q } (L2.start nBegin vs) H := by
  obtain ⟨a, ns, rfl, hs, k⟩ := h
  have e0 : (L2.start nBegin [V.ref a]).set 1 (some (.int 1)) = [some (.ref a), some (.int 1), none] := rfl
  show tSeq (tFor (iList K (tVar 0)) (gName 2) (tAsg (tOp rMod (tOp rAdd (tOp rAdd (tOp rMul (tVar 1) (tC (.int 69621))) (tOp rMod (toI (tVar 2)) (tC (.int 2147483629)))) (tC (.int 7))) (tC (.int 2147483647))) (gName 1))) _ _ ((L2.start nBegin [V.ref a]).set 1 (some (.int 1))) H
  rw [e0]
  have hl : (ns.map V.int).length = ns.length := List.length_map ..
  refine ⟨_, rfl, a, rfl, ⟨_, hs⟩, fun i m σ H' => m = ns.length - i ∧ i ≤ ns.length ∧ H' = H ∧ ∃ c b, σ = [some (.ref a), some (.int c), b] ∧ 0 ≤ c ∧ c < 2147483647, ⟨_, rfl, Nat.zero_le _, rfl, 1, none, rfl, by decide, by decide⟩, ?_⟩
  rintro i m σ H' ⟨rfl, hi, rfl, c, b, rfl, c0, c1⟩
  by_cases hlt : i < ns.length
  · refine .inr ⟨⟨_, .int ns[i], hs, by simp [hlt]⟩, fun σ H'' => i + 1 ≤ ns.length ∧ H'' = H' ∧ ∃ c b, σ = [some (.ref a), some (.int c), b] ∧ 0 ≤ c ∧ c < 2147483647, fun σ' H'' n => ⟨_, ?_, rfl, n⟩, fun x H'' y => ?_⟩
    · omega
    obtain ⟨rfl, y⟩ := y
    have ex : x = .int ns[i] := by
      have := y _ hs
      simp [hlt] at this
      exact this.symm
    subst ex
    refine ⟨_, rfl, _, _, rfl, rfl, .inl ⟨by omega, by omega⟩, _, rfl, .inl ⟨_, rfl, _, _, rfl, rfl, (show (0 : Int) < 2147483629 by decide), _, _, rfl, rfl, _, _, rfl, rfl, _, _, rfl, rfl, (show (0 : Int) < 2147483647 by decide), hlt, rfl, _, _, rfl, Int.emod_nonneg _ (by decide), Int.emod_lt_of_pos _ (by decide)⟩⟩
  · have e : i = ns.length := by omega
    subst e
    refine .inl ⟨⟨_, hs, by rw [hl]; exact Nat.le_refl _⟩, ?_⟩
    refine ⟨_, rfl, a, _, rfl, .inl hs, fun q hq => ⟨_, rfl, (show (4 : Nat) ≤ sizeLine by decide), fun p hp => ?_⟩⟩
    have ne : p ≠ q := fun z => by subst z; rw [upd_same] at hp; cases hp
    rw [upd_ne ne] at hp
    exact k _ p q c ((upd_grow hq).trans (upd_grow (by rw [upd_ne ne]; exact hp))) hp hq ne (by rw [upd_ne (Ne.symm ne), upd_same]) upd_same c0 c1
end DW
set_option Elab.async false
set_option linter.all false
set_option maxRecDepth 100000
set_option maxHeartbeats 4000000
namespace DW
open PySem PySem.Spec PyProof.Rows L2 PpSet
/-! ### set(bs), all the same truth value -/
section
variable {P0 : Program} {w : World} {A : Around} {R : Result → Shared → Prop} {I : Addr} {fp wr : List Addr} {G : Array GenState → Array GenState → Prop} {n : Nat} {Pv : Nat → Value → Prop} {St : Nat → Shared → Prop}
/-- the members behind i turns -/
abbrev memB (b : Bool) (i : Nat) : Bool → Bool := fun k => decide (0 < i) && decide (k = b)
theorem loopB (Wk : WalksS P0 w A.in1 I fp wr G n Pv St) (S : Addr) (off : S ∉ fp) (b : Bool) (hval : ∀ i v, Pv i v → v = .bool b) : ∀ (k i : Nat) (s : Shared), n - i = k → i ≤ n → St i s → s.heap.SetOf (boolK P0 w) S (memB b i) (min i 1) →
      (∀ t, Moved (S :: wr) G s t → t.heap.SetOf (boolK P0 w) S (memB b n) (min n 1) → R (.ok (.ret .none)) t) → codeAny (model P0 w) A (.builtin "set.update.loop" ⟨[.ref S, .ref I], []⟩) R s := by
  have offw : S ∉ wr := fun h => off (Wk.sub _ h)
  have more : ∀ c ∈ wr, c ∈ S :: wr := fun c hc => List.mem_cons_of_mem _ hc
  intro k
  induction k with
  | zero =>
    intro i s hk hi hst hS hR
    obtain rfl : i = n := by omega
    refine codeAny_builtin PyProof.Rows.F.entry_set_update_loop ?_
    rw [Around.under_plainId PyProof.Rows.F.plain_set_update_loop _]
    refine (show wpAny _ A.in1 (pyNext (.ref I) >>= _) _ _ s from wpAny_bind (Wk.done s _ _ hst fun t hm => ?_))
    refine (show wpAny _ A.in1 (ret Value.none) _ _ t from wpAny_pure (hR t (hm.mono more) ?_))
    obtain ⟨o, es, ep, tb, ho, more2⟩ := hS
    exact ⟨o, es, ep, tb, hm.heap S _ offw ho, more2⟩
  | succ k ih =>
    intro i s hk hi hst hS hR
    have lt : i < n := by omega
    refine codeAny_builtin PyProof.Rows.F.entry_set_update_loop ?_
    rw [Around.under_plainId PyProof.Rows.F.plain_set_update_loop _]
    refine (show wpAny _ A.in1 (pyNext (.ref I) >>= _) _ _ s from wpAny_bind (Wk.item i s _ _ lt hst fun v t hP ht hm => ?_))
    obtain rfl := hval i v hP
    have hS1 : t.heap.SetOf (boolK P0 w) S (memB b i) (min i 1) := by
      obtain ⟨o, es, ep, tb, ho, more2⟩ := hS
      exact ⟨o, es, ep, tb, hm.heap S _ offw ho, more2⟩
    refine (show wpAny _ A.in1 (holding [Value.bool b] (setAdd S (.bool b)) >>= _) _ _ t from wpAny_bind (wpAny_holding ?_))
    unfold setAdd
    refine wpAny_holding (wpAny_bind ((boolK P0 w).pyHash (k := b) (boolK_is _ _ _) ?_))
    refine wpAny_setAddHashed_of (knd := boolK P0 w) (s := { t with toks := t.toks + 1 }) (boolK_is _ _ _) rfl hS1 (by unfold scanBound; omega) fun h' sb hS2 => ?_
    have hS3 : h'.SetOf (boolK P0 w) S (memB b (i + 1)) (min (i + 1) 1) := by
      refine SetOf_congr hS2 (fun k' => ?_) ?_
      · show (decide (0 < i) && decide (k' = b) || decide (k' = b)) = (decide (0 < i + 1) && decide (k' = b))
        by_cases e : k' = b <;> simp [e]
      · by_cases e : 0 < i
        · simp [memB, e]; omega
        · have : i = 0 := by omega
          subst this; simp [memB]
    refine wpAny_pure ⟨plainId_quiet PyProof.Rows.F.plain_set_update_loop _, ih (i + 1) _ (by omega) lt (Wk.frame _ t _ _ ht (Nat.le_succ _) fun c hc o e => ?_) hS3 fun u hm2 hS4 => ?_⟩
    · exact (sb.2 c (fun z : c = S => off (z ▸ hc))).trans e
    · refine hR u (Moved.trans Wk.gtrans ((hm.mono more).then_heap (Nat.le_succ _) fun c o hc e => ?_) hm2) hS4
      exact (sb.2 c (fun z : c = S => hc (z ▸ List.mem_cons_self))).trans e
end
section
variable {P0 : Program} {w : World} {A : Around} {E : Value → Shared → Prop} {s : Shared}
set_option maxHeartbeats 3200000 in
theorem set_ofB {l : Addr} {us : Array Value} {b : Bool} {Q : Value → Shared → Prop} (hh : A.handled = none) (hl : s.heap.IsList l us) (hall : ∀ (i : Nat) (v : Value), us[i]? = some v → v = .bool b)
    (hQ : ∀ (h' : Heap) (tk : Nat), h'.SetOf (boolK P0 w) s.heap.objs.size (memB b us.size) (min us.size 1) → (∀ c o, c < s.heap.objs.size → s.heap.get? c = some o → h'.get? c = some o) → Q (.ref s.heap.objs.size) { s with heap := h', toks := tk }) : wpAny (model P0 w) A (call (.type "set") [.ref l]) Q E s := by
  have f1 := PySem.F.called_set.notType; have f2 := PySem.F.called_set.canCreate; have f3 := PySem.F.typeCall_set_1 (.ref l); have f4 := PySem.F.called_set.made; have f5 := PySem.F.called_set.sub
  obtain ⟨c, tl, hmro⟩ := PySem.F.called_set.mro
  refine (wpAny_call (codeAny_of_tree (show wpAny _ _ (callAny (.type "set") _) _ _ _ from wpAny_pure ⟨Code.quiet_builtin _ (by decide +kernel), codeAny_builtin PySem.F.entry_type_call ?_⟩)))
  rw [Around.under_plain (weight_type_call_type "set" [.ref l] []) rfl]
  repeat (any_goals first | assumption | wp_step)
  refine codeAny_mono (code_set_new_1 (.ref l) (E := E) (Q₁ := fun z t => ∃ led : Bool, z = .ref s.heap.objs.size ∧ t = { s with heap := s.heap.push { cls := .type "set", dict := none, data := .set #[] 0 (.fresh 0 0 led) } }) fun led => ⟨led, rfl, rfl⟩) fun r t hr => ?_
  cases r with
  | error e => exact hr
  | ok fl =>
    cases fl with
    | ret z =>
      obtain ⟨led, rfl, rfl⟩ := hr
      have gS : (s.heap.push { cls := .type "set", dict := none, data := .set #[] 0 (.fresh 0 0 led) }).get? s.heap.objs.size = some { cls := .type "set", dict := none, data := .set #[] 0 (.fresh 0 0 led) } := (Heap.get?_push_size _ rfl)
      have tS : Shared.TypeIs { s with heap := s.heap.push { cls := .type "set", dict := none, data := .set #[] 0 (.fresh 0 0 led) } } (.ref s.heap.objs.size) "set" := (⟨_, gS, rfl⟩)
      have b1 := PySem.F.called_set.init.lookup; have b2 := PySem.F.called_set.init.bind (.ref s.heap.objs.size)
      repeat (any_goals first | assumption | wp_step)
      refine codeAny_mono (codeAny_call_builtin (R := wants (fun r t => r = .none ∧ ∃ h' tk, t = { s with heap := h', toks := tk } ∧ h'.SetOf (boolK P0 w) s.heap.objs.size (memB b us.size) (min us.size 1) ∧ (∀ c o, c < s.heap.objs.size → s.heap.get? c = some o → h'.get? c = some o)) E) PySem.F.called_set.init.plain PySem.F.entry_set_init (check_set_init_1 tS ?_)) fun r2 t2 hr2 => ?_
      · obtain ⟨⟨k1, k2, k3, k4⟩, hol, hcl, nl, hdl⟩ := hl
        simp only at hcl hdl
        subst hcl; subst hdl
        have hol2 : (s.heap.push { cls := .type "set", dict := none, data := .set #[] 0 (.fresh 0 0 led) }).get? l = some { cls := .type "list", dict := k2, data := .seq us nl, slots := k4 } := Heap.get?_push_of_some _ hol
        have n1 := PySem.F.sub_list_set; have n2 := PySem.F.sub_list_frozenset
        have n3 : (Value.type "list" == Value.type "dict") = false := by decide
        have hl1 : (s.heap.push { cls := .type "set", dict := none, data := .set #[] 0 (.fresh 0 0 led) }).IsList l us := ⟨_, hol2, rfl, nl, rfl⟩
        unfold Builtin.«set.__init__» noKeywords Builtin.Frozenset.updateFrom
        generalize ePI : pyIter = PI
        wp_walk
        subst ePI
        refine wpAny_pyIter_list hl1 ?_; refine wpAny_bind (wpAny_runValue ?_)
        have lS : l < s.heap.objs.size := Heap.lt_size hol
        have hnone : A.in1.in1.in1.handled = none := by simp [hh]
        have ne1 : l ≠ (s.heap.push { cls := .type "set", dict := none, data := .set #[] 0 (.fresh 0 0 led) }).objs.size := by rw [Heap.size_push]; exact Nat.ne_of_lt (Nat.lt_succ_of_lt lS)
        have off : s.heap.objs.size ∉ [(s.heap.push { cls := .type "set", dict := none, data := .set #[] 0 (.fresh 0 0 led) }).objs.size, l] := by
          rw [Heap.size_push]
          intro hm
          rcases List.mem_cons.mp hm with z | z
          · exact absurd z (Nat.ne_of_lt (Nat.lt_succ_self _))
          · exact absurd (List.mem_singleton.mp z) (Nat.ne_of_gt lS)
        refine loopB ((Walks.list hnone _ l ne1 us).toS) s.heap.objs.size off b (fun i v hv => hall i v hv) (us.size - 0) 0 _ (by omega) (Nat.zero_le _) ⟨⟨_, Heap.get?_push_size _ rfl, rfl, rfl⟩, (hl1.push _)⟩ ?start ?fin
        case start =>
          have gg := Heap.get?_push_of_some { cls := .type "list_iterator", data := .fields #[.ref l, .int 0 0] } gS
          refine PyProof.Rows.SetOf_congr ((PyProof.Rows.setObjOf_fresh (knd := boolK P0 w) led).setOf gg (by unfold scanBound; omega)) (fun k => ?_) rfl
          first | rfl | simp [memB]
        case fin =>
          rintro ⟨h', g', d', tk', os'⟩ hm hS'
          obtain rfl : g' = s.gens := hm.gens
          obtain rfl : d' = s.drawn := hm.drawn
          obtain rfl : os' = s.os := hm.os
          refine (show wpAny _ _ _ _ _ _ from wpAny_pure (show wpAny _ _ (ret Value.none) _ _ _ from wpAny_pure ⟨rfl, h', tk', rfl, hS', fun c o hc e => ?_⟩))
          refine hm.heap c o (fun hm2 => ?_) (Heap.get?_push_of_some _ (Heap.get?_push_of_some _ e))
          rcases List.mem_cons.mp hm2 with z | z
          · exact absurd z (Nat.ne_of_lt hc)
          · have := List.mem_singleton.mp z
            rw [Heap.size_push] at this
            exact absurd this (Nat.ne_of_lt (Nat.lt_succ_of_lt hc))
      · cases r2 with
        | error e => exact hr2
        | ok fl2 =>
          cases fl2 with
          | ret r =>
            obtain ⟨rfl, h', tk, rfl, hS', hk'⟩ := hr2
            repeat (any_goals first | assumption | wp_step)
            exact hQ _ _ hS' hk'
          | _ => exact hr2.elim
    | _ => exact hr.elim
end
section
variable {X : Cx} {a : Expr} {ta : TE} {p p2 q pos : Pos}
theorem vals_bl {b : Bool} : ∀ {n : Nat} {its : List Value}, Vals (List.replicate n (V.bl b)) its → ∀ (i : Nat) (v : Value), its[i]? = some v → v = .bool b
  | 0, _, h, i, v, e => by cases h; simp at e
  | n + 1, _, h, i, v, e => by
    rw [List.replicate_succ] at h
    cases h with
    | cons r t =>
      cases i with
      | zero => simp at e; subst e; exact r
      | succ i => exact vals_bl t i v (by simpa using e)
theorem pe_lenSetB (hc : X.calm = true) (hg : Gl X "len") (hm : X.mg "len" = none) (hg2 : Gl X "set") (hm2 : X.mg "set" = none) (ha : PE X a ta) (na : starEach [a] X.env = (false, eval a X.env) :: starEach [] X.env := by rfl) :
    PE X (.Call (.Name "len" p) [.Call (.Name "set" p2) [a] [] q] [] pos) (fun σ H Q => ta σ H fun x H1 => ∃ (l : Addr) (b : Bool) (n : Nat), x = .ref l ∧ SqL X.K H1 l (List.replicate n (V.bl b)) ∧ Q (.int (min n 1 : Nat)) H1) := ⟨fun pins s σ H Q I h => by
  refine Call_ (ld_blt I hg hm boot_len (callWith_builtin1 (args_cons ?_ rfl) rfl rfl))
  refine Call_ (ld_blt I hg2 hm2 boot_set (callWith_type1 (args_cons (thn (ha.run pins s σ H _ I h) fun v s1 ⟨x, H1, I1, r1, l, b, n, ex, hq, q1⟩ => args_nil ?_) na) na rfl))
  subst ex
  cases r1
  obtain ⟨its, r, pl, hz⟩ := I1.list hq
  have hn : its.toArray.size = n := by rw [List.size_toArray, ← r.length, List.length_replicate]
  refine set_ofB (I1.ok.hd hc) pl.isList (b := b) (fun i v hv => vals_bl r i v (by simpa using hv)) fun h' tk hS hk => args_nil ?_
  rw [hn] at hS
  obtain ⟨o, es, ep, t, ho, hex, hd, _, _, hb, hf, hsz⟩ := hS
  have I2 : Inv X pins σ H1 { s1 with heap := h', toks := tk } := I1.kept fun c o e => hk c o (Heap.lt_size e) e
  exact call_len_set ho hex hd hf (by rw [hsz]; omega) ⟨.int (min n 1 : Nat), H1, I2.tok _, ⟨_, by rw [hsz]⟩, q1⟩⟩
end
end DW
set_option Elab.async false
set_option linter.all false
set_option maxRecDepth 100000
set_option maxHeartbeats 4000000
namespace DW
open PySem PySem.Spec L2
theorem room_units {k : Nat} {A : Around} (r : Room k A) : A.units + 1 < cLine ∧ A.units + 64 < cLine ∧ A.units + 65 < cLine := by
  have := r.un
  exact ⟨by omega, by omega, by omega⟩
/-- an own exception class: what the head tells -/
structure XF (K : PySem.W.Frag) (mg : Str → Option Value) (x : Str) : Prop where
  glo : mg x = some (.ref (He.ga K x))
  exc : PySem.W.excIn K (He.ga K x) He.veBase "ValueError.__new__" = true
  keep : PySem.W.keepIn K (.ref (He.ga K x)) = true
  sub : PySem.W.subIn K (.ref (He.ga K x)) (.type "BaseException") = some true
  typ : PySem.W.typeIn K (.ref (He.ga K x)) = some (.type "type")
section
variable {K : PySem.W.Frag} {w : Option Dw} {G : Gd} {F F1 F2 H H1 H2 : Hp} {σ : L2.St} {δ : DEnv}
variable {X : Cx} {W : WX} {st : Bool} {tg iter e a b c elt o kx vx : Expr} {es rest : List Expr} {we wa wb wc wk wv wo : WE'} {wt wu : WT} {waa : WA} {pos p q np pos' apos cpos py spos : Pos} {s b₀ : Stmt} {body suite : List Stmt} {ws wss : WS} {x y : Str}
theorem de_glI {i : Int} (hg : Gl X x) (h : ∃ t, X.mg x = some (.int i t)) (hd : (x == ("__debug__" : Str)) = false := by decide) : DE X G W (.Name x pos) (wC (.int i)) := by
  obtain ⟨t, h⟩ := h
  exact de_con (pe_glob (v := .int i) hg h ⟨t, rfl⟩ hd) fun _ => .int i
theorem de_neg {j : Nat} {z : Int} {p3 : Pos} : DE X G W (.UnaryOp .USub (.Constant (.int z) j p3) pos) (wC (.int (-z))) := PE.imp (pe_un un_neg pe_int) fun σ H Q ⟨F, δ, P, PX, S, p, k, xk⟩ => ⟨z, rfl, k _ F H (.im (.int (-z))) S.ext.stay (.int _) p⟩
theorem dt_inL (hu : X.A.units + 65 < cLine) (ha : DE X G W a wa) (hb : DE X G W b wb) (hm : behindInMarks .In b = false := by rfl) : DT X G W (.Compare a [.In] [b] pos) (wB (wOp (kInL false) wa wb)) := dt_cmp (op_inD hu) opd_inL ha hb hm
theorem dt_notInL (hu : X.A.units + 65 < cLine) (ha : DE X G W a wa) (hb : DE X G W b wb) (hm : behindInMarks .NotIn b = false := by rfl) : DT X G W (.Compare a [.NotIn] [b] pos) (wB (wOp (kInL true) wa wb)) := dt_cmp (op_notInD hu) opd_notInL ha hb hm
theorem dt_inT (ha : DE X G W a wa) (hb : DE X G W b wb) (hm : behindInMarks .In b = false := by rfl) : DT X G W (.Compare a [.In] [b] pos) (wB (wOp (kInT false) wa wb)) := dt_cmp op_in_seq opd_inT ha hb hm
theorem dt_notInT (ha : DE X G W a wa) (hb : DE X G W b wb) (hm : behindInMarks .NotIn b = false := by rfl) : DT X G W (.Compare a [.NotIn] [b] pos) (wB (wOp (kInT true) wa wb)) := dt_cmp op_notIn_seq opd_notInT ha hb hm
theorem dt_inS (ha : DE X G W a wa) (hb : DE X G W b wb) (hm : behindInMarks .In b = false := by rfl) : DT X G W (.Compare a [.In] [b] pos) (wB (wOp (kInS false) wa wb)) := dt_cmp op_in_sign opd_inS ha hb hm
theorem dt_isN (ha : DE X G W a wa) (hb : DE X G W b wb) : DT X G W (.Compare a [.Is] [b] pos) (wB (wOp kIsN wa wb)) := dt_cmp op_isN opd_isN ha hb (nb _ (by decide) (by decide))
theorem dt_notN (ha : DE X G W a wa) (hb : DE X G W b wb) : DT X G W (.Compare a [.IsNot] [b] pos) (wB (wOp kNotN wa wb)) := dt_cmp op_notN opd_notN ha hb (nb _ (by decide) (by decide))
/-- x = [.. for ..] on one line -/
theorem ds_setLc {i : Nat} {scope : Scope} {own : List (Str × Nat)} {wi : WI} {wg : WG} {ts : List Nat} (hc : X.calm = true) (hN : X.N.Nodup) (hy : X.N[i]? = some y) (hyl : X.env.scope.names.lookup y = some .local)
    (hsw : swapsWith (.ListComp elt [⟨tg, iter, [], 0⟩] scope pos) (some (.Name y py)) spos.line X.env = pure true) (hi : DI X G W st tg iter wi) (ok : BlkOk X.N X.env.scope scope own)
    (hg : ∀ (s : Shared) (H : Hp) (C : Addr) (cl : List (Str × Addr)) (fp : List Addr), DG (X.blk s H scope (compEnvC scope cl C X.env) fp) G ts tg wg)
    (he : ∀ (s : Shared) (H : Hp) (C : Addr) (cl : List (Str × Addr)) (fp : List Addr), DE (X.blk s H scope (compEnvC scope cl C X.env) fp) G wTrue elt we)
    (hts : ∀ t ∈ ts, t ∈ own.map (·.2) := by decide) (hs : ∀ x, foldedSetIterable iter X.env x = pure x := by intro _; rfl) : DS X G W (.Assign [.Name y py] (.ListComp elt [⟨tg, iter, [], 0⟩] scope pos) spos) (sSet i (wLc wi wg wtYes we (own.map (·.2)))) :=
  PS.imp (ps_setLc hc hN hy hyl hsw hi ok hg (fun _ _ _ _ _ => pts_nil) he hs) fun D σ H h => lc_of hts (fun σ H Q ⟨F, δ, P, PX, S, q, k, xk⟩ => k true F H S.ext.stay q) (fun _ _ _ h => h) (set_of h)
theorem ds_setLcIf {i : Nat} {scope : Scope} {own : List (Str × Nat)} {wi : WI} {wg : WG} {ts : List Nat} (hc : X.calm = true) (hN : X.N.Nodup) (hy : X.N[i]? = some y) (hyl : X.env.scope.names.lookup y = some .local)
    (hsw : swapsWith (.ListComp elt [⟨tg, iter, [c], 0⟩] scope pos) (some (.Name y py)) spos.line X.env = pure true) (hi : DI X G W st tg iter wi) (ok : BlkOk X.N X.env.scope scope own)
    (hg : ∀ (s : Shared) (H : Hp) (C : Addr) (cl : List (Str × Addr)) (fp : List Addr), DG (X.blk s H scope (compEnvC scope cl C X.env) fp) G ts tg wg)
    (ht : ∀ (s : Shared) (H : Hp) (C : Addr) (cl : List (Str × Addr)) (fp : List Addr), DT (X.blk s H scope (compEnvC scope cl C X.env) fp) G wTrue c wt)
    (he : ∀ (s : Shared) (H : Hp) (C : Addr) (cl : List (Str × Addr)) (fp : List Addr), DE (X.blk s H scope (compEnvC scope cl C X.env) fp) G wTrue elt we)
    (hts : ∀ t ∈ ts, t ∈ own.map (·.2) := by decide) (hs : ∀ x, foldedSetIterable iter X.env x = pure x := by intro _; rfl) : DS X G W (.Assign [.Name y py] (.ListComp elt [⟨tg, iter, [c], 0⟩] scope pos) spos) (sSet i (wLc wi wg wt we (own.map (·.2)))) :=
  PS.imp (ps_setLc hc hN hy hyl hsw hi ok hg (fun s H C cl fp => pts_one (ht s H C cl fp)) he hs) fun D σ H h => lc_of hts (fun _ _ _ h => h) (fun _ _ _ h => h) (set_of h)
/-- len(set(bs)), at most one truth value -/
def wLenSetB (we : WE') : WE' := fun δ P PX => we δ (fun r => ∃ (b : Bool) (n : Nat), r.lst = some (List.replicate n (PyData.bool b)) ∧ P (.im (.int (if n = 0 then 0 else 1)))) PX
theorem RepL.same {K : PySem.W.Frag} {F : Hp} {b : Bool} : ∀ {n : Nat} {us : List V}, RepL K F us (List.replicate n (PyData.bool b)) → us = List.replicate n (V.bl b)
  | 0, _, h => by cases h; rfl
  | n + 1, _, h => by
    rw [List.replicate_succ] at h
    cases h with
    | cons r t => cases r; rw [RepL.same t]; rfl
theorem de_lenSetB (hc : X.calm = true) (hg : Gl X "len") (hm : X.mg "len" = none) (hg2 : Gl X "set") (hm2 : X.mg "set" = none) (ha : DE X G W a we) (na : starEach [a] X.env = (false, eval a X.env) :: starEach [] X.env := by rfl) : DE X G W (.Call (.Name "len" p) [.Call (.Name "set" np) [a] [] q] [] pos) (wLenSetB we) :=
  PE.imp (pe_lenSetB hc hg hm hg2 hm2 ha na) fun σ H Q ⟨F, δ, P, PX, S, q, k, xk⟩ => by
    refine ⟨F, δ, _, PX, S, q, fun v F1 H1 r x1 q1 ⟨b, n, e, p1⟩ => ?_, xk⟩
    obtain ⟨l, us, rfl, hl, ll⟩ := q1.list x1.le e
    rw [RepL.same ll] at hl
    refine ⟨l, b, n, rfl, hl, k _ F1 H1 (.im (.int (min n 1 : Nat))) x1 (.int _) ?_⟩
    have : ((min n 1 : Nat) : Int) = if n = 0 then 0 else 1 := by split <;> omega
    rw [this]
    exact p1
end
end DW
set_option Elab.async false
set_option linter.all false
set_option maxRecDepth 100000
set_option maxHeartbeats 4000000
namespace DW
open PySem PySem.Spec L2
/-! ### how wishes are met -/
inductive All2 {α β : Type} (C : α → β → Prop) : List α → List β → Prop where
  | nil : All2 C [] []
  | cons {a : α} {b : β} {l : List α} {m : List β} : C a b → All2 C l m → All2 C (a :: l) (b :: m)
section
variable {α : Type} {wg : WG} {wt : WT} {we wk wv : WE'} {wb : WS} {δ0 δ : DEnv}
theorem lc_run {P : List D → Prop} (h g : α → D) : ∀ (l : List α) (acc : List D), (∀ x ∈ l, ∀ Q : R → Prop, Q (.im (g x)) → wg (h x) δ0 fun δ1 => we δ1 Q fun _ => False) → acc.length + l.length ≤ sizeLine → P (acc ++ l.map g) → lcGo wg wtYes we P δ0 (l.map h) acc
  | [], acc, _, _, p => by rw [List.map_nil, List.append_nil] at p; exact p
  | x :: l, acc, st, hz, p => by
    rw [List.length_cons] at hz
    have q := lc_run (P := P) h g l (acc ++ [g x]) (fun y hy => st y (List.mem_cons_of_mem _ hy)) (by rw [List.length_append, List.length_singleton]; omega) (by rw [List.map_cons] at p; rw [List.append_assoc]; exact p)
    exact st x List.mem_cons_self (fun r => ∃ d', r.dat = some d' ∧ acc.length < sizeLine ∧ lcGo wg wtYes we P δ0 (l.map h) (acc ++ [d'])) ⟨g x, rfl, by omega, q⟩
/-- elements that are made of whatever (a draw): what may come -/
theorem lc_any {P : List D → Prop} (h : α → D) (C : α → D → Prop) : ∀ (l : List α) (acc : List D), (∀ x ∈ l, ∀ Q : R → Prop, (∀ v, C x v → Q (.im v)) → wg (h x) δ0 fun δ1 => we δ1 Q fun _ => False) → acc.length + l.length ≤ sizeLine →
    (∀ out : List D, All2 C l out → P (acc ++ out)) → lcGo wg wtYes we P δ0 (l.map h) acc
  | [], acc, _, _, p => by have := p [] .nil; rw [List.append_nil] at this; exact this
  | x :: l, acc, st, hz, p => by
    rw [List.length_cons] at hz
    refine st x List.mem_cons_self (fun r => ∃ d', r.dat = some d' ∧ acc.length < sizeLine ∧ lcGo wg wtYes we P δ0 (l.map h) (acc ++ [d'])) fun v cv => ⟨v, rfl, by omega, ?_⟩
    exact lc_any (P := P) h C l (acc ++ [v]) (fun y hy => st y (List.mem_cons_of_mem _ hy)) (by rw [List.length_append, List.length_singleton]; omega) fun out ho => by rw [List.append_assoc]; exact p (v :: out) (.cons cv ho)
theorem lc_runIf {P : List D → Prop} (h g : α → D) (c : α → Bool) : ∀ (l : List α) (acc : List D), (∀ x ∈ l, ∀ Q : Bool → DEnv → Prop, (∀ δ1 b, b = c x → (∀ S : R → Prop, S (.im (g x)) → we δ1 S fun _ => False) → Q b δ1) → wg (h x) δ0 fun δ1 => wt δ1 (fun b => Q b δ1) fun _ => False) →
    acc.length + l.length ≤ sizeLine → P (acc ++ (l.filter c).map g) → lcGo wg wt we P δ0 (l.map h) acc
  | [], acc, _, _, p => by rw [List.filter_nil, List.map_nil, List.append_nil] at p; exact p
  | x :: l, acc, st, hz, p => by
    rw [List.length_cons] at hz
    refine st x List.mem_cons_self (fun b δ1 => if b = true then we δ1 (fun r => ∃ d', r.dat = some d' ∧ acc.length < sizeLine ∧ lcGo wg wt we P δ0 (l.map h) (acc ++ [d'])) (fun _ => False) else lcGo wg wt we P δ0 (l.map h) acc) fun δ1 b eb hw => ?_
    subst eb
    cases e : c x with
    | true =>
      rw [if_pos rfl]
      refine hw _ ⟨g x, rfl, by omega, ?_⟩
      exact lc_runIf (P := P) h g c l (acc ++ [g x]) (fun y hy => st y (List.mem_cons_of_mem _ hy)) (by rw [List.length_append, List.length_singleton]; omega) (by rw [List.filter_cons, if_pos e, List.map_cons] at p; rw [List.append_assoc]; exact p)
    | false =>
      rw [if_neg Bool.false_ne_true]
      exact lc_runIf (P := P) h g c l acc (fun y hy => st y (List.mem_cons_of_mem _ hy)) (by omega) (by rw [List.filter_cons, if_neg (by rw [e]; exact Bool.false_ne_true)] at p; exact p)
theorem for_run {E : DEnds} (h : α → D) (I : List α → DEnv → Prop) (fin : ∀ l δ, I l δ → E.nx δ → E.nx δ) : ∀ (l pre : List α) (δ : DEnv), I pre δ →
    (∀ pre' x suf δ (N : DEnv → Prop), pre ++ l = pre' ++ x :: suf → I pre' δ → (∀ δ', I (pre' ++ [x]) δ' → N δ') → wg (h x) δ fun δ1 => wb { E with nx := N, ct := N, bk := E.nx } δ1) → (∀ δ, I (pre ++ l) δ → E.nx δ) → forGo wg wb E (l.map h) δ
  | [], pre, δ, i, _, f => by rw [List.append_nil] at f; exact f δ i
  | x :: l, pre, δ, i, st, f => by
    refine st pre x l δ _ rfl i fun δ' i' => ?_
    exact for_run h I fin l (pre ++ [x]) δ' i' (fun pre' y suf δ N e => st pre' y suf δ N (by rw [← e, List.append_assoc]; rfl)) fun δ hδ => f δ (by rw [List.append_assoc] at hδ; exact hδ)
theorem for_all {E : DEnds} (h : α → D) (I : List α → DEnv → Prop) (l : List α) (δ : DEnv) (i : I [] δ) (st : ∀ pre x suf δ (N : DEnv → Prop), l = pre ++ x :: suf → I pre δ → (∀ δ', I (pre ++ [x]) δ' → N δ') → wg (h x) δ fun δ1 => wb { E with nx := N, ct := N, bk := E.nx } δ1)
    (f : ∀ δ, I l δ → E.nx δ) : forGo wg wb E (l.map h) δ := for_run h I (fun _ _ _ h => h) l [] δ i st f
end
/-- the slots, written out -/
theorem env {p : DEnv → Prop} {δ : DEnv} (δ' : DEnv) (e : δ' = δ) (h : p δ') : p δ := e ▸ h
theorem intsD_map {lo : Int} {n : Nat} : intsD lo n = (List.range n).map fun i : Nat => PyData.int (lo + (i : Nat)) := rfl
theorem intsD0 {n : Nat} : intsD 0 n = (List.range n).map fun i : Nat => PyData.int (i : Nat) := by
  unfold intsD
  exact List.map_congr_left fun i _ => by rw [Int.zero_add]
theorem at_nat {α : Type} {xs : List α} {i : Nat} {d : α} (h : xs[i]? = some d) : atI xs (i : Int) = some d := by
  have hl : i < xs.length := (List.getElem?_eq_some_iff.mp h).1
  unfold atI ixN
  rw [if_pos (Int.natCast_nonneg _), if_pos (by omega)]
  exact h
theorem atI_last {α : Type} {xs : List α} {d : α} (h : xs.getLast? = some d) : atI xs (-1) = some d := by
  have hl : 0 < xs.length := by
    cases xs with
    | nil => cases h
    | cons => simp
  unfold atI ixN
  rw [if_neg (by decide), if_pos (by omega)]
  have e : (-1 + (xs.length : Int)).toNat = xs.length - 1 := by omega
  show xs[(-1 + (xs.length : Int)).toNat]? = some d
  rw [e, ← List.getLast?_eq_getElem?]
  exact h
end DW
set_option Elab.async false
set_option linter.all false
set_option maxRecDepth 100000
set_option maxHeartbeats 4000000
namespace DW
open PySem PySem.Spec L2
/-! ### data that can be compared -/
def Sh (k : Nat) (d : D) : Prop := d.canLay0 = true ∧ d.depth ≤ k
theorem Sh.mono {k j : Nat} {d : D} (h : Sh k d) (q : k ≤ j) : Sh j d := ⟨h.1, Nat.le_trans h.2 q⟩
theorem Sh.int (i : Int) : Sh 0 (.int i) := ⟨by simp [PyData.canLay0], by simp [PyData.depth]⟩
theorem Sh.bool (i : Bool) : Sh 0 (.bool i) := ⟨by simp [PyData.canLay0], by simp [PyData.depth]⟩
theorem Sh.non : Sh 0 .none := ⟨by simp [PyData.canLay0], by simp [PyData.depth]⟩
theorem Sh.all {k : Nat} : ∀ {ds : List D}, (∀ d ∈ ds, Sh k d) → PyData.canLayAll0 ds = true ∧ PyData.depthAll ds ≤ k
  | [], _ => ⟨by simp [PyData.canLayAll0], by simp [PyData.depthAll]⟩
  | d :: ds, h => by
    obtain ⟨a, b⟩ := h d List.mem_cons_self
    obtain ⟨a', b'⟩ := Sh.all fun e he => h e (List.mem_cons_of_mem _ he)
    exact ⟨by simp [PyData.canLayAll0, a, a'], by rw [PyData.depthAll]; omega⟩
theorem Sh.tup {k : Nat} {ds : List D} (h : ∀ d ∈ ds, Sh k d) : Sh (k + 1) (.tuple ds) := ⟨by rw [PyData.canLay0]; exact (Sh.all h).1, by rw [PyData.depth]; have := (Sh.all h).2; omega⟩
theorem Sh.lst {k : Nat} {ds : List D} (h : ∀ d ∈ ds, Sh k d) : Sh (k + 1) (.list ds) := ⟨by rw [PyData.canLay0]; exact (Sh.all h).1, by rw [PyData.depth]; have := (Sh.all h).2; omega⟩
theorem Sh.shaped {k : Nat} {d : D} (h : Sh k d) (q : k ≤ 64) : SeqAt.shaped d = true := by
  unfold SeqAt.shaped
  rw [h.1, decide_eq_true (Nat.le_trans h.2 q)]; rfl
theorem eqv_self {k : Nat} {d : D} (h : Sh k d) : PyData.eqv d d = true := SeqAt.eqv_refl d h.1
theorem eqv_ints : ∀ {xs ys : List Int}, PyData.eqvAll (xs.map PyData.int) (ys.map PyData.int) = decide (xs = ys)
  | [], [] => rfl
  | [], _ :: _ => rfl
  | _ :: _, [] => rfl
  | x :: xs, y :: ys => by
    rw [List.map_cons, List.map_cons, PyData.eqvAll, eqv_ints, PyData.eqv]
    by_cases h : x = y
    · subst h; simp
    · simp [h]
end DW
set_option Elab.async false
set_option linter.all false
set_option maxRecDepth 100000
set_option maxHeartbeats 4000000
namespace DW
open PySem PySem.Spec L2
/-! ### a law's def, its end -/
abbrev FnP (K : PySem.W.Frag) (x : Str) (st : Stmt) (f : Addr) (fd : FuncData) : Prop := FunD K x x (defArgs st) (defBody st) (defScope st) [] [] f fd
theorem fun_of {K : PySem.W.Frag} {x : Str} {st : Stmt} {f : Addr} {fd : FuncData} (F : FnP K x st f fd) : L2.Fun K x x st f fd := by
  obtain ⟨oc, od, dV, kV, doc, pm, an, cdv, ct, osl, e, lk, hcd, hD, hK⟩ := F.ex
  rcases hD with ⟨_, rfl⟩ | ⟨z, _⟩
  · exact ⟨⟨oc, od, kV, doc, pm, an, cdv, ct, osl, e, lk, hcd⟩, F.kp⟩
  · exact absurd rfl z
def spLaw (K : PySem.W.Frag) : Sp := fun vs H Q _ => ∃ (a : Addr) (ns : List Int), vs = [.ref a] ∧ SqL K H a (ns.map V.int) ∧ ns.length ≤ 63 ∧ (∀ z ∈ ns, Builtin.Int.intBits z ≤ 1048576) ∧ ∀ H', Q (.bl true) H'
theorem big_bits {z : Int} (h : Builtin.Int.intBits z ≤ 1048576) : Big z := by
  unfold Big
  by_cases e : z.natAbs = 0
  · rw [e]; exact Nat.two_pow_pos _
  · refine (Nat.log2_lt e).mp ?_
    unfold Builtin.Int.intBits at h
    split at h
    · rename_i hz
      have : z = 0 := by simpa using hz
      subst this; exact absurd rfl e
    · omega
/-- what stands behind the first statement: whatever the ground -/
def tRest (K : PySem.W.Frag) (W : WX) (ws : WS) : TS := fun D σ H => ∃ G, dTS K G W ws D σ H
theorem law_tail {X : Cx} {W : WX} {ss : List Stmt} {ws : WS} (h : ∀ G, DSs X G W ss ws) : PSs X ss (tRest X.K W ws) := ⟨fun pins s σ H D I ⟨G, q⟩ => (h G).run pins s σ H D I q⟩
theorem law_start {K : PySem.W.Frag} {W : WX} {ws : WS} {N : List Str} {n : Nat} (hN : N.length = n + 2) (sem : ∀ (P : R → Prop) (PX : DX → Prop), P (.im (.bool true)) → ws (fnEnds P PX) (none :: some .drw :: List.replicate n none))
    {vs : List V} {H : Hp} {Q : VK} {E : XK} (h : spLaw K vs H Q E) : tSeq (tAsg (tCall (spBegin K) [] E0 (tCons (tVar 0) tNil)) (gName 1)) (tRest K W ws) { nx := fun _ H' => Q .non H', rt := Q } (L2.start N vs) H := by
  obtain ⟨a, ns, rfl, hS, hl, hz, hQ⟩ := h
  have hs : L2.start N [V.ref a] = some (.ref a) :: List.replicate (n + 1) none := by
    unfold L2.start
    rw [hN]; rfl
  rw [hs]
  refine ⟨_, rfl, a, ns, rfl, hS, fun H' p q c le hp hq ne e1 e2 c0 c1 => ?_⟩
  let F : Hp := upd (fun _ => none) q (.lst (ns.map V.int))
  have hFp : F p = none := upd_ne ne
  have hFq : F q = some (.lst (ns.map V.int)) := upd_same
  have sub : Sub F H' := fun b o e => by
    by_cases hb : b = q
    · subst hb; rw [hFq] at e; rw [← e]; exact e1
    · have : F b = none := upd_ne hb
      rw [this] at e; cases e
  let d : Dw := ⟨p, q, ns⟩
  have ok : DwOk F H' d := ⟨hFp, ⟨0, 0, c, e2, Int.le_refl _, Nat.two_pow_pos _, c0, c1⟩, hFq, hl, fun z hzm => big_bits (hz z hzm)⟩
  have x : Ext (some d) F H' F H' := Ext.refl sub fun d' e => by cases e; exact ok
  refine ⟨⟨some d, F, H'⟩, F, none :: some .drw :: List.replicate n none, fnEnds (fun r => r = .im (.bool true)) (fun _ => False), ?_, sem _ _ rfl, ?_⟩
  · have b := RepS.bare (K := K) (G := ⟨some d, F, H'⟩) x (some (.ref a) :: List.replicate (n + 1) none)
    have st := b.store (i := 1) (v := .ref p) (s := .drw) ⟨d, rfl, rfl⟩ fun z => nomatch z
    have el : (List.replicate (some (V.ref a) :: List.replicate (n + 1) none).length (none : Option SV)).set 1 (some .drw) = none :: some .drw :: List.replicate n none := by
      rw [List.length_cons, List.length_replicate]; rfl
    rw [el] at st
    exact st
  · refine ⟨fun σ' F' H' δ' _ _ z => (by cases z), fun _ _ _ _ _ _ z => z.elim, fun _ _ _ _ _ _ z => z.elim, fun v F' H' r _ rr z => ?_, fun _ _ _ _ _ _ _ _ z => z.elim⟩
    obtain ⟨_, z⟩ := z
    subst z
    cases rr
    exact hQ H'
end DW
namespace DW
open PySem PySem.Spec PyProof.Rows L2
theorem walk_bits {l : PySem.W.OpenLaw} {n k : Nat} {q : Program} {loose : List Str} {XP : (Str → Option Value) → Heap → Prop} {YP : World → Heap → Prop} {d : DefRec} {CX : World → CXT} {x : Str} (hn : l.most = some n) (hn2 : n ≤ sizeLine) (hdf : d.params.defaults = []) (hr : Room k callerA)
    (F : ∀ (w : World) (mg : Str → Option Value) (fa : Addr) (h : Heap), YP w h → h.Ns mainGlobals mg → mg d.name = some (.ref fa) → ∃ (K : PySem.W.Frag) (fd : FuncData) (sp : Sp), K.In h ∧ (∀ (s : Shared) (u : Value), BindsTo s fd ⟨[u], []⟩ [(x, u)]) ∧
        (∀ (H : Hp) (a : Addr) (ns : List Int), ns.length ≤ n → (∀ z ∈ ns, Builtin.Int.intBits z ≤ 1048576) → SqL K H a (ns.map V.int) → sp [.ref a] H (fun v _ => v = .bl true) fun _ _ _ => False) ∧ ∀ base : Heap, K.In base → base.Ns mainGlobals mg → FnOk l.prog w K mg base (CX w) k fa fd [x] sp)
    (hCX : ∀ (w : World) (H : Hp) (s : Shared) (e : Value) (s' : Shared), CX w [] H s (fun _ _ _ => False) e s' → False) : PySem.W.WalkO q loose XP YP l.row.toRowW d [] (fun f vs => PySem.call f vs) := by
  refine Att.attach_callB hn hdf fun w s₀ s₁ mg mb fa o pm cd doc a vs ns G Y ho hd hcd hmg hobj hints hlen hbits hg => ?_
  obtain ⟨K, fd, sp, KX, hb, hsp, hF⟩ := F w mg fa _ Y G.T.g hmg
  exact law_call KX G.T.g G.T.b G.T.builtins G.T.nolimit hg hobj hints (Nat.le_trans hlen hn2) hr hF hb (fun H _ hS => hsp H a ns hlen hbits hS) fun H e s' => hCX w H s₁ e s'
end DW
set_option Elab.async false
set_option linter.all false
set_option maxRecDepth 100000
set_option maxHeartbeats 4000000
/-! plain: machines, words, actions -/
namespace K35
open PySem
structure Mc where
  al : List Nat
  tb : List (List Nat)
  en : List Nat
abbrev Wd := List Nat
abbrev Ac := List Nat
def Mc.n (m : Mc) : Nat := m.tb.length
/-- one step -/
def Mc.st (m : Mc) (s : Nat) (c : Nat) : Nat := (m.tb.getD s []).getD (m.al.idxOf c) 0
def Mc.run (m : Mc) (s : Nat) (w : Wd) : Nat := w.foldl m.st s
structure Mc.Ok (m : Mc) : Prop where
  n1 : 1 ≤ m.n
  n4 : m.n ≤ 4
  rows : ∀ r ∈ m.tb, r.length = m.al.length
  ins : ∀ r ∈ m.tb, ∀ q ∈ r, q < m.n
  alp : m.al = [97] ∨ m.al = [97, 98] ∨ m.al = [97, 98, 99]
def idA (n : Nat) : Ac := List.range n
def act (m : Mc) (w : Wd) : Ac := (List.range m.n).map fun s => m.run s w
def mul (a b : Ac) : Ac := a.map fun s => b.getD s 0
abbrev En := Wd × Ac
/-- one sign's turn -/
def put (m : Mc) (e : En) (o : List En) (c : Nat) : List En := if (o.map (·.2)).contains (mul e.2 (act m [c])) then o else o ++ [(e.1 ++ [c], mul e.2 (act m [c]))]
def grow (m : Mc) (o : List En) (e : En) : List En := m.al.foldl (put m e) o
def bfs (m : Mc) : Nat → List En → Nat → List En
  | 0, o, _ => o
  | f + 1, o, k => match o[k]? with
    | none => o
    | some e => if o.length ≤ 200 then bfs m f (grow m o e) (k + 1) else o
def order (m : Mc) : List En := bfs m 201 [([], idA m.n)] 0
/-- index and period, by the powers so far -/
def pows (a : Ac) : Nat → List Ac → List Ac
  | 0, l => l
  | f + 1, l => if l.contains (mul (l.getLastD []) a) then l else pows a f (l ++ [mul (l.getLastD []) a])
def pw (a : Ac) : List Ac := pows a 257 [idA a.length]
def ixp (a : Ac) : Nat × Nat := let l := pw a; let i := l.idxOf (mul (l.getLastD []) a); (i, l.length - i)
/-- data -/
abbrev D := PyData
def iD (k : Nat) : D := .int (k : Int)
def aD (a : Ac) : D := .tuple (a.map iD)
def wS (w : Wd) : Str := ⟨w.toArray⟩
def wD (w : Wd) : D := .str (wS w)
def mD (m : Mc) : D := .tuple [wD m.al, .tuple (m.tb.map aD), aD m.en]
def eD (e : En) : D := .tuple [wD e.1, aD e.2]
def ixD (p : Nat × Nat) : D := .tuple [iD p.1, iD p.2]
def table (m : Mc) : D := .tuple ((order m).map fun x => .tuple ((order m).map fun y => iD (((order m).map (·.2)).idxOf (mul x.2 y.2))))
def staysD (m : Mc) : D := .tuple (((List.range (order m).length).filter fun k => decide (mul (((order m).map (·.2)).getD k []) (((order m).map (·.2)).getD k []) = ((order m).map (·.2)).getD k [])).map iD)
def cntD (m : Mc) : D := match (order m).find? fun e => decide (1 < (ixp e.2).2) with
  | some e => .tuple [.str "counts", wD e.1, iD (ixp e.2).2]
  | none => .tuple [.str "free", iD ((order m).foldl (fun k e => max k (ixp e.2).1) 0)]
def Mc.In (m : Mc) (w : Wd) : Prop := ∀ c ∈ w, c ∈ m.al
/-- an action of n states -/
def AcOk (n : Nat) (a : Ac) : Prop := a.length = n ∧ ∀ s ∈ a, s < n
end K35
namespace K35
open PySem PySem.Spec L2 DW
/-! promises -/
def S_state_from : DSpec := fun rs P _ => ∃ m s w, rs = [.im (mD m), .im (iD s), .im (wD w)] ∧ m.Ok ∧ s < m.n ∧ m.In w ∧ P (.im (iD (m.run s w)))
def S_action_of : DSpec := fun rs P _ => ∃ m w, rs = [.im (mD m), .im (wD w)] ∧ m.Ok ∧ m.In w ∧ P (.im (aD (act m w)))
def S_behind : DSpec := fun rs P _ => ∃ n a b, rs = [.im (aD a), .im (aD b)] ∧ n ≤ 4 ∧ AcOk n a ∧ AcOk n b ∧ P (.im (aD (mul a b)))
def S_actions_of (K : PySem.W.Frag) : DSpec := fun rs P PX => ∃ m, rs = [.im (mD m)] ∧ m.Ok ∧ (if (order m).length ≤ 200 then P (.im (.tuple ((order m).map eD))) else PX ⟨He.ga K "LargeError", []⟩)
def S_product_table (K : PySem.W.Frag) : DSpec := fun rs P _ => ∃ m, rs = [.im (mD m)] ∧ m.Ok ∧ (order m).length ≤ 200 ∧ P (.im (table m))
def S_index_of : DSpec := fun rs P _ => ∃ n a, rs = [.im (aD a)] ∧ AcOk n a ∧ n ≤ 4 ∧ P (.im (ixD (ixp a)))
def S_index_and_period : DSpec := fun rs P _ => ∃ m w, rs = [.im (mD m), .im (wD w)] ∧ m.Ok ∧ m.In w ∧ P (.im (ixD (ixp (act m w))))
def S_counting (K : PySem.W.Frag) : DSpec := fun rs P _ => ∃ m, rs = [.im (mD m)] ∧ m.Ok ∧ (order m).length ≤ 200 ∧ P (.im (cntD m))
def S_stays (K : PySem.W.Frag) : DSpec := fun rs P _ => ∃ m, rs = [.im (mD m)] ∧ m.Ok ∧ (order m).length ≤ 200 ∧ P (.im (staysD m))
def S__law_take : DSpec := S_take
/-- one of the menu's things -/
def S__law_pick : DSpec := fun rs P _ => ∃ xs : List D, rs = [.drw, .im (.list xs)] ∧ 0 < xs.length ∧ xs.length < 1000000 ∧ ∀ d ∈ xs, P (.im d)
/-- the words over al of at most n signs (all that is asked: words over al, some) -/
def S__law_longer : DSpec := fun rs P _ => ∃ (al : Wd) (l : List Wd), rs = [.im (wD al), .im (.list (l.map wD))] ∧ al.length ≤ 3 ∧ l.length ≤ 100000 ∧ (∀ w ∈ l, w.length ≤ 100) ∧
  ∀ l2 : List Wd, l2.length = l.length * al.length → (∀ w ∈ l2, ∃ v ∈ l, ∃ c ∈ al, w = v ++ [c]) → P (.ol (l2.map wD))
def S__law_all : DSpec := fun rs P _ => ∃ (al : Wd) (n : Nat), rs = [.im (wD al), .im (iD n)] ∧ al.length ≤ 3 ∧ n ≤ 4 ∧ ∀ l : List Wd, 0 < l.length → l.length < 1000 → (∀ w ∈ l, w.length ≤ n ∧ ∀ c ∈ w, c ∈ al) → P (.ol (l.map wD))
def S__law_machine : DSpec := fun rs P _ => rs = [.drw, .im (iD 4)] ∧ ∀ m : Mc, m.Ok → P (.im (mD m))
def S__law_state : DSpec := S_state_from
def S__law_takes : DSpec := fun rs P _ => ∃ m w, rs = [.im (mD m), .im (wD w)] ∧ m.Ok ∧ m.In w ∧ P (.im (.bool (decide (m.run 0 w ∈ m.en))))
def S__law_told : DSpec := fun rs P _ => ∃ m, rs = [.im (mD m)] ∧ m.Ok ∧ (if (order m).length ≤ 200 then P (.im (.tuple ((order m).map eD))) else P (.im .none))
def S__law_do : DSpec := S_behind
def S__law_powers : DSpec := S_index_of
structure TT0 (K : PySem.W.Frag) (mg : Str → Option Value) : Prop where
  len : mg "len" = none
  abs : mg "abs" = none
  int : mg "int" = none
  list : mg "list" = none
  tuple : mg "tuple" = none
  range : mg "range" = none
  enumerate : mg "enumerate" = none
  max : mg "max" = none
  set : mg "set" = none
  g_MOST_ACTIONS : ∃ t, mg "MOST_ACTIONS" = some (.int 200 t)
  x_LargeError : XF K mg "LargeError"
  m_LargeError : PySem.W.exmOne K (.ref (He.ga K "LargeError")) (.ref (He.ga K "LargeError")) = some true
end K35
set_option Elab.async false
set_option linter.all false
set_option maxRecDepth 100000
set_option maxHeartbeats 1000000
/-! plain: powers, the growing of actions -/
namespace K35
theorem nodup_lt : ∀ (B : Nat) (l : List Nat), l.Nodup → (∀ x ∈ l, x < B) → l.length ≤ B
  | 0, l, _, h => by
    cases l with
    | nil => exact Nat.le_refl _
    | cons x r => exact absurd (h x List.mem_cons_self) (Nat.not_lt_zero _)
  | B + 1, l, nd, h => by
    by_cases hb : B ∈ l
    · have h1 := nodup_lt B (l.erase B) (nd.erase B) fun x hx => by
        have := (nd.mem_erase_iff).mp hx
        have := h x this.2
        omega
      have h2 := List.length_erase_of_mem hb
      have h3 : 0 < l.length := List.length_pos_of_mem hb
      omega
    · have := nodup_lt B l nd fun x hx => by
        have := h x hx
        have : x ≠ B := fun z => hb (z ▸ hx)
        omega
      omega
def code : Ac → Nat
  | [] => 0
  | x :: l => x + 4 * code l
theorem code_lt : ∀ {l : Ac}, (∀ x ∈ l, x < 4) → code l < 4 ^ l.length
  | [], _ => by decide
  | x :: l, h => by
    have h1 := code_lt fun y hy => h y (List.mem_cons_of_mem _ hy)
    have h2 := h x List.mem_cons_self
    show x + 4 * code l < 4 ^ (l.length + 1)
    rw [Nat.pow_succ]
    omega
theorem code_inj : ∀ {l m : Ac}, l.length = m.length → (∀ x ∈ l, x < 4) → (∀ x ∈ m, x < 4) → code l = code m → l = m
  | [], [], _, _, _, _ => rfl
  | [], _ :: _, e, _, _, _ => by cases e
  | _ :: _, [], e, _, _, _ => by cases e
  | x :: l, y :: m, e, h, k, c => by
    have h2 := h x List.mem_cons_self
    have k2 := k y List.mem_cons_self
    have c' : x + 4 * code l = y + 4 * code m := c
    have e1 : x = y := by omega
    have e2 : code l = code m := by omega
    rw [e1, code_inj (by simpa using e) (fun z hz => h z (List.mem_cons_of_mem _ hz)) (fun z hz => k z (List.mem_cons_of_mem _ hz)) e2]
theorem nodup_map {α β : Type} {f : α → β} : ∀ {l : List α}, l.Nodup → (∀ a ∈ l, ∀ b ∈ l, f a = f b → a = b) → (l.map f).Nodup
  | [], _, _ => List.nodup_nil
  | a :: l, nd, h => by
    rw [List.map_cons, List.nodup_cons]
    rw [List.nodup_cons] at nd
    refine ⟨fun hm => ?_, nodup_map nd.2 fun x hx y hy => h x (List.mem_cons_of_mem _ hx) y (List.mem_cons_of_mem _ hy)⟩
    obtain ⟨b, hb, e⟩ := List.mem_map.mp hm
    have := h b (List.mem_cons_of_mem _ hb) a List.mem_cons_self e
    exact nd.1 (this ▸ hb)
theorem few {n : Nat} (hn : n ≤ 4) {l : List Ac} (nd : l.Nodup) (h : ∀ a ∈ l, AcOk n a) : l.length ≤ 256 := by
  have e : (l.map code).length ≤ 256 := by
    refine nodup_lt 256 _ (nodup_map nd fun a ha b hb e => ?_) fun x hx => ?_
    · exact code_inj ((h a ha).1.trans (h b hb).1.symm) (fun x hx => Nat.lt_of_lt_of_le ((h a ha).2 x hx) hn) (fun x hx => Nat.lt_of_lt_of_le ((h b hb).2 x hx) hn) e
    · obtain ⟨a, ha, rfl⟩ := List.mem_map.mp hx
      refine Nat.lt_of_lt_of_le (code_lt fun x hx => Nat.lt_of_lt_of_le ((h a ha).2 x hx) hn) ?_
      rw [(h a ha).1]
      exact Nat.pow_le_pow_right (by decide) hn
  rwa [List.length_map] at e
theorem mul_ok {n : Nat} {a b : Ac} (ha : AcOk n a) (hb : AcOk n b) : AcOk n (mul a b) := by
  refine ⟨by unfold mul; rw [List.length_map]; exact ha.1, fun s hs => ?_⟩
  obtain ⟨t, ht, rfl⟩ := List.mem_map.mp hs
  have hl : t < b.length := by rw [hb.1]; exact ha.2 t ht
  rw [List.getD_eq_getElem?_getD, List.getElem?_eq_getElem hl]
  exact hb.2 _ (List.getElem_mem hl)
theorem id_ok (n : Nat) : AcOk n (idA n) := ⟨List.length_range, fun s hs => List.mem_range.mp hs⟩
/-- the powers -/
def pwr (a : Ac) : Nat → Ac
  | 0 => idA a.length
  | k + 1 => mul (pwr a k) a
def Pk (a : Ac) (k : Nat) : List Ac := (List.range (k + 1)).map (pwr a)
theorem Pk_succ (a : Ac) (k : Nat) : Pk a (k + 1) = Pk a k ++ [pwr a (k + 1)] := by unfold Pk; rw [List.range_succ, List.map_append]; rfl
theorem Pk_len (a : Ac) (k : Nat) : (Pk a k).length = k + 1 := by unfold Pk; rw [List.length_map, List.length_range]
theorem Pk_last (a : Ac) (k : Nat) : (Pk a k).getLast? = some (pwr a k) := by
  unfold Pk
  rw [List.range_succ, List.map_append]
  simp
theorem Pk_lastD (a : Ac) (k : Nat) : (Pk a k).getLastD [] = pwr a k := by
  rw [List.getLastD_eq_getLast?, Pk_last]; rfl
theorem Pk_at (a : Ac) {k j : Nat} (h : j ≤ k) : (Pk a k)[j]? = some (pwr a j) := by
  unfold Pk
  rw [List.getElem?_map, List.getElem?_range (by omega)]
  rfl
theorem pwr_ok {n : Nat} {a : Ac} (ha : AcOk n a) : ∀ k, AcOk n (pwr a k)
  | 0 => by show AcOk n (idA a.length); rw [ha.1]; exact id_ok n
  | k + 1 => mul_ok (pwr_ok ha k) ha
theorem Pk_ok {n : Nat} {a : Ac} (ha : AcOk n a) (k : Nat) : ∀ b ∈ Pk a k, AcOk n b := fun b hb => by
  obtain ⟨j, _, rfl⟩ := List.mem_map.mp hb
  exact pwr_ok ha j
/-- where the powers come round -/
structure Turn (a : Ac) (k : Nat) : Prop where
  nd : (Pk a k).Nodup
  hit : pwr a (k + 1) ∈ Pk a k
theorem nodup_snoc {α : Type} {l : List α} {x : α} (nd : l.Nodup) (h : x ∉ l) : (l ++ [x]).Nodup := by
  rw [List.nodup_append]
  refine ⟨nd, by simp, fun a ha b hb e => ?_⟩
  simp at hb
  subst hb; subst e
  exact h ha
theorem Pk_pre (a : Ac) {j k : Nat} (h : j ≤ k) : (Pk a k).Nodup → (Pk a j).Nodup := by
  intro nd
  induction k with
  | zero => have : j = 0 := by omega
            subst this; exact nd
  | succ k ih =>
    by_cases e : j = k + 1
    · subst e; exact nd
    · rw [Pk_succ, List.nodup_append] at nd
      exact ih (by omega) nd.1
theorem Turn.unique {a : Ac} {j k : Nat} (h : Turn a j) (q : Turn a k) : j = k := by
  have one : ∀ {j k : Nat}, Turn a j → Turn a k → ¬ j < k := fun {j k} h q lt => by
    have nd := Pk_pre a (show j + 1 ≤ k from lt) q.nd
    rw [Pk_succ, List.nodup_append] at nd
    exact nd.2.2 _ h.hit _ (by simp) rfl
  have := one h q
  have := one q h
  omega
theorem pows_turn {n : Nat} {a : Ac} (hn : n ≤ 4) (ha : AcOk n a) : ∀ f k, (Pk a k).Nodup → 256 ≤ f + k → ∃ j, pows a f (Pk a k) = Pk a j ∧ Turn a j
  | 0, k, nd, h => by
    have := few hn nd (Pk_ok ha k)
    rw [Pk_len] at this
    omega
  | f + 1, k, nd, h => by
    unfold pows
    rw [Pk_lastD]
    by_cases e : pwr a (k + 1) ∈ Pk a k
    · have e' : mul (pwr a k) a ∈ Pk a k := e
      rw [if_pos (by simpa using e')]
      exact ⟨k, rfl, nd, e⟩
    · have e' : ¬ mul (pwr a k) a ∈ Pk a k := e
      rw [if_neg (by simpa using e')]
      have := pows_turn hn ha f (k + 1) (by rw [Pk_succ]; exact nodup_snoc nd e) (by omega)
      rwa [Pk_succ] at this
theorem pw_turn {n : Nat} {a : Ac} (hn : n ≤ 4) (ha : AcOk n a) : ∃ k, pw a = Pk a k ∧ Turn a k := pows_turn hn ha 257 0 (by unfold Pk; simp) (by omega)
theorem ixp_turn {n : Nat} {a : Ac} (hn : n ≤ 4) (ha : AcOk n a) {k : Nat} (t : Turn a k) : ixp a = ((Pk a k).idxOf (pwr a (k + 1)), k + 1 - (Pk a k).idxOf (pwr a (k + 1))) := by
  obtain ⟨j, e, q⟩ := pw_turn hn ha
  obtain rfl := q.unique t
  unfold ixp
  rw [e]
  simp only [Pk_lastD, Pk_len]
  rfl
end K35
set_option Elab.async false
set_option linter.all false
set_option maxRecDepth 100000
set_option maxHeartbeats 1000000
namespace K35
theorem Mc.Ok.cell' {m : Mc} (o : m.Ok) {s c : Nat} (hs : s < m.n) (hc : c ∈ m.al) : m.st s c < m.n := by
  have hs' : s < m.tb.length := hs
  have e : m.tb.getD s [] = m.tb[s] := by simp [List.getD_eq_getElem?_getD, hs']
  have hm : m.tb[s] ∈ m.tb := List.getElem_mem hs'
  have hl : m.al.idxOf c < m.tb[s].length := by rw [o.rows _ hm]; exact List.idxOf_lt_length_of_mem hc
  unfold Mc.st
  rw [e]
  have e2 : m.tb[s].getD (m.al.idxOf c) 0 = m.tb[s][m.al.idxOf c] := by simp [List.getD_eq_getElem?_getD, hl]
  rw [e2]
  exact o.ins _ hm _ (List.getElem_mem hl)
theorem Mc.Ok.runs' {m : Mc} (o : m.Ok) : ∀ (w : Wd) {s : Nat}, s < m.n → m.In w → m.run s w < m.n
  | [], _, hs, _ => hs
  | c :: w, s, hs, hw => Mc.Ok.runs' o w (o.cell' hs (hw c List.mem_cons_self)) fun d hd => hw d (List.mem_cons_of_mem _ hd)
theorem run_app (m : Mc) (s : Nat) (u v : Wd) : m.run s (u ++ v) = m.run (m.run s u) v := by unfold Mc.run; rw [List.foldl_append]
theorem act_at {m : Mc} (w : Wd) {s : Nat} (hs : s < m.n) : (act m w)[s]? = some (m.run s w) := by
  unfold act
  rw [List.getElem?_map, List.getElem?_range hs]; rfl
theorem act_ok {m : Mc} (o : m.Ok) {w : Wd} (hw : m.In w) : AcOk m.n (act m w) := by
  refine ⟨by unfold act; rw [List.length_map, List.length_range], fun s hs => ?_⟩
  obtain ⟨t, ht, rfl⟩ := List.mem_map.mp hs
  exact o.runs' w (List.mem_range.mp ht) hw
theorem act_app {m : Mc} (o : m.Ok) {u v : Wd} (hu : m.In u) : act m (u ++ v) = mul (act m u) (act m v) := by
  unfold mul
  show (List.range m.n).map _ = ((List.range m.n).map _).map _
  rw [List.map_map]
  refine List.map_congr_left fun s hs => ?_
  have hq := o.runs' u (List.mem_range.mp hs) hu
  show m.run s (u ++ v) = (act m v).getD (m.run s u) 0
  rw [List.getD_eq_getElem?_getD, act_at v hq, run_app]; rfl
theorem act_nil (m : Mc) : act m [] = idA m.n := by
  unfold act idA
  show (List.range m.n).map (fun s => s) = _
  exact List.map_id' _
theorem in_app {m : Mc} {u v : Wd} (hu : m.In u) (hv : m.In v) : m.In (u ++ v) := fun c hc => (List.mem_append.mp hc).elim (hu c) (hv c)
theorem in_one {m : Mc} {c : Nat} (h : c ∈ m.al) : m.In [c] := fun d hd => by rw [List.mem_singleton] at hd; subst hd; exact h
theorem in_nil {m : Mc} : m.In [] := fun d hd => nomatch hd
/-- what holds of the entries so far -/
structure Inv (m : Mc) (o : List En) (k : Nat) : Prop where
  good : ∀ e ∈ o, m.In e.1 ∧ e.2 = act m e.1
  nd : (o.map (·.2)).Nodup
  hd : ([], idA m.n) ∈ o
  ln : ∀ e ∈ o, e.1.length ≤ o.length
  cl : ∀ (j : Nat) (e : En), j < k → o[j]? = some e → ∀ c ∈ m.al, mul e.2 (act m [c]) ∈ o.map (·.2)
theorem put_pre (m : Mc) (e : En) (o : List En) (c : Nat) : ∃ t, put m e o c = o ++ t := by
  unfold put
  split
  · exact ⟨[], by simp⟩
  · exact ⟨_, rfl⟩
theorem fold_pre (m : Mc) (e : En) : ∀ (cs : List Nat) (o : List En), ∃ t, cs.foldl (put m e) o = o ++ t
  | [], o => ⟨[], by simp⟩
  | c :: cs, o => by
    obtain ⟨t, ht⟩ := put_pre m e o c
    obtain ⟨u, hu⟩ := fold_pre m e cs (put m e o c)
    exact ⟨t ++ u, by rw [List.foldl_cons, hu, ht, List.append_assoc]⟩
theorem put_len (m : Mc) (e : En) (o : List En) (c : Nat) : (put m e o c).length ≤ o.length + 1 := by
  unfold put
  split
  · omega
  · simp
theorem fold_len (m : Mc) (e : En) : ∀ (cs : List Nat) (o : List En), (cs.foldl (put m e) o).length ≤ o.length + cs.length
  | [], o => Nat.le_refl _
  | c :: cs, o => by
    have := fold_len m e cs (put m e o c)
    have := put_len m e o c
    rw [List.foldl_cons, List.length_cons]; omega
theorem find_self {o : List En} (nd : (o.map (·.2)).Nodup) {e : En} (he : e ∈ o) : (o.find? fun x => decide (x.2 = e.2)) = some e := by
  induction o with
  | nil => cases he
  | cons x o ih =>
    rw [List.map_cons, List.nodup_cons] at nd
    rw [List.find?_cons]
    rcases List.mem_cons.mp he with rfl | h
    · simp
    · have hx : ¬ x.2 = e.2 := fun z => nd.1 (z ▸ List.mem_map.mpr ⟨e, h, rfl⟩)
      rw [decide_eq_false hx]
      exact ih nd.2 h
theorem put_has (m : Mc) (e : En) (o : List En) (c : Nat) : mul e.2 (act m [c]) ∈ (put m e o c).map (·.2) := by
  unfold put
  split
  · rename_i h; simpa using h
  · simp
theorem put_inv {m : Mc} (ok : m.Ok) {e : En} {o : List En} {k c : Nat} (i : Inv m o k) (he : e ∈ o) (hk : k ≤ o.length) (hc : c ∈ m.al) : Inv m (put m e o c) k := by
  have ge := i.good e he
  unfold put
  split
  · exact i
  · rename_i hn
    refine ⟨fun x hx => ?_, ?_, List.mem_append_left _ i.hd, fun x hx => ?_, fun j x hj hx d hd => ?_⟩
    · rcases List.mem_append.mp hx with h | h
      · exact i.good x h
      · rw [List.mem_singleton] at h
        subst h
        exact ⟨in_app ge.1 (in_one hc), by rw [act_app ok ge.1, ← ge.2]⟩
    · rw [List.map_append]
      exact nodup_snoc i.nd (by simpa using hn)
    · rw [List.length_append, List.length_singleton]
      rcases List.mem_append.mp hx with h | h
      · have := i.ln x h; omega
      · rw [List.mem_singleton] at h
        subst h
        have := i.ln e he
        show (e.1 ++ [c]).length ≤ _
        rw [List.length_append, List.length_singleton]; omega
    · rw [List.getElem?_append_left (by omega)] at hx
      rw [List.map_append]
      exact List.mem_append_left _ (i.cl j x hj hx d hd)
theorem fold_inv {m : Mc} (ok : m.Ok) {e : En} {k : Nat} : ∀ (cs : List Nat) {o : List En}, Inv m o k → e ∈ o → k ≤ o.length → (∀ c ∈ cs, c ∈ m.al) → Inv m (cs.foldl (put m e) o) k
  | [], _, i, _, _, _ => i
  | c :: cs, o, i, he, hk, h => by
    obtain ⟨t, ht⟩ := put_pre m e o c
    exact fold_inv ok cs (put_inv ok i he hk (h c List.mem_cons_self)) (by rw [ht]; exact List.mem_append_left _ he) (by rw [ht, List.length_append]; omega) fun d hd => h d (List.mem_cons_of_mem _ hd)
theorem fold_has (m : Mc) (e : En) : ∀ (cs : List Nat) (o : List En), ∀ c ∈ cs, mul e.2 (act m [c]) ∈ (cs.foldl (put m e) o).map (·.2)
  | d :: cs, o, c, hc => by
    rw [List.foldl_cons]
    rcases List.mem_cons.mp hc with rfl | h
    · obtain ⟨t, ht⟩ := fold_pre m e cs (put m e o c)
      rw [ht, List.map_append]
      exact List.mem_append_left _ (put_has m e o c)
    · exact fold_has m e cs _ c h
theorem grow_inv {m : Mc} (ok : m.Ok) {e : En} {o : List En} {k : Nat} (i : Inv m o k) (he : o[k]? = some e) : Inv m (grow m o e) (k + 1) := by
  have hm := List.mem_of_getElem? he
  have hk : k < o.length := (List.getElem?_eq_some_iff.mp he).1
  have j := fold_inv ok m.al i hm (Nat.le_of_lt hk) fun _ h => h
  obtain ⟨t, ht⟩ := fold_pre m e m.al o
  refine ⟨j.good, j.nd, j.hd, j.ln, fun q x hq hx c hc => ?_⟩
  by_cases h : q < k
  · exact j.cl q x h hx c hc
  · have : q = k := by omega
    subst this
    have hx' : (m.al.foldl (put m e) o)[q]? = some x := hx
    rw [ht, List.getElem?_append_left hk, he] at hx'
    cases hx'
    exact fold_has m e m.al o c hc
/-- an end: too many, or all done -/
theorem bfs_end {m : Mc} : ∀ (f : Nat) (o : List En) (k : Nat), (200 < o.length ∨ o.length ≤ k) → bfs m f o k = o
  | 0, _, _, _ => rfl
  | f + 1, o, k, h => by
    unfold bfs
    cases e : o[k]? with
    | none => rfl
    | some x =>
      have := (List.getElem?_eq_some_iff.mp e).1
      show (if o.length ≤ 200 then _ else o) = o
      rw [if_neg (by omega)]
theorem bfs_turn {m : Mc} {f : Nat} {o : List En} {k : Nat} {e : En} (he : o[k]? = some e) (h : o.length ≤ 200) : bfs m (f + 1) o k = bfs m f (grow m o e) (k + 1) := by
  show (match o[k]? with
    | none => o
    | some e => if o.length ≤ 200 then bfs m f (grow m o e) (k + 1) else o) = _
  rw [he]
  show (if o.length ≤ 200 then _ else o) = _
  rw [if_pos h]
theorem bfs_inv {m : Mc} (ok : m.Ok) : ∀ (f : Nat) (o : List En) (k : Nat), Inv m o k → k ≤ o.length → 201 ≤ f + k → ∃ k', Inv m (bfs m f o k) k' ∧ (200 < (bfs m f o k).length ∨ (bfs m f o k).length ≤ k')
  | 0, o, k, i, hk, hf => ⟨k, i, .inl (by show 200 < o.length; omega)⟩
  | f + 1, o, k, i, hk, hf => by
    by_cases h : 200 < o.length ∨ o.length ≤ k
    · rw [bfs_end _ _ _ h]; exact ⟨k, i, h⟩
    · have hl : k < o.length := by omega
      have he : o[k]? = some o[k] := List.getElem?_eq_getElem hl
      rw [bfs_turn he (by omega)]
      obtain ⟨t, ht⟩ := fold_pre m o[k] m.al o
      exact bfs_inv ok f _ (k + 1) (grow_inv ok i he) (by show k + 1 ≤ (m.al.foldl (put m o[k]) o).length; rw [ht, List.length_append]; omega) (by omega)
theorem inv0 (m : Mc) : Inv m [([], idA m.n)] 0 := ⟨fun e he => by rw [List.mem_singleton] at he; subst he; exact ⟨in_nil, (act_nil m).symm⟩, by simp, List.mem_singleton.mpr rfl, fun e he => by rw [List.mem_singleton] at he; subst he; exact Nat.zero_le _, fun j e hj => absurd hj (Nat.not_lt_zero _)⟩
theorem order_inv {m : Mc} (ok : m.Ok) : ∃ k, Inv m (order m) k ∧ (200 < (order m).length ∨ (order m).length ≤ k) := bfs_inv ok 201 _ 0 (inv0 m) (Nat.zero_le _) (by decide)
theorem order_all {m : Mc} (ok : m.Ok) (h : (order m).length ≤ 200) : ∀ (w : Wd), m.In w → act m w ∈ (order m).map (·.2) := by
  obtain ⟨k, i, q⟩ := order_inv ok
  have hk : (order m).length ≤ k := by omega
  have : ∀ (n : Nat) (w : Wd), w.length = n → m.In w → act m w ∈ (order m).map (·.2) := by
    intro n
    induction n with
    | zero =>
      intro w hl hw
      rw [List.eq_nil_of_length_eq_zero hl, act_nil]
      exact List.mem_map.mpr ⟨_, i.hd, rfl⟩
    | succ n ih =>
      intro w hl hw
      obtain ⟨u, c, rfl⟩ : ∃ u c, w = u ++ [c] := ⟨w.dropLast, w.getLast (by intro z; subst z; cases hl), (List.dropLast_concat_getLast _).symm⟩
      have hu : m.In u := fun d hd => hw d (List.mem_append_left _ hd)
      have hc : c ∈ m.al := hw c (by simp)
      obtain ⟨e, he, ee⟩ := List.mem_map.mp (ih u (by simpa using hl) hu)
      obtain ⟨j, hj, rfl⟩ := List.getElem_of_mem he
      rw [act_app ok hu, ← ee]
      exact i.cl j _ (by omega) (List.getElem?_eq_getElem hj) c hc
  exact fun w hw => this w.length w rfl hw
theorem order_nd {m : Mc} (ok : m.Ok) : ((order m).map (·.2)).Nodup := let ⟨_, i, _⟩ := order_inv ok; i.nd
theorem order_good {m : Mc} (ok : m.Ok) : ∀ e ∈ order m, m.In e.1 ∧ e.2 = act m e.1 := let ⟨_, i, _⟩ := order_inv ok; i.good
theorem order_ok {m : Mc} (ok : m.Ok) {e : En} (he : e ∈ order m) : AcOk m.n e.2 := by rw [(order_good ok e he).2]; exact act_ok ok (order_good ok e he).1
theorem order_mul {m : Mc} (ok : m.Ok) (h : (order m).length ≤ 200) {x y : En} (hx : x ∈ order m) (hy : y ∈ order m) : mul x.2 y.2 ∈ (order m).map (·.2) := by
  rw [(order_good ok x hx).2, (order_good ok y hy).2, ← act_app ok (order_good ok x hx).1]
  exact order_all ok h _ (in_app (order_good ok x hx).1 (order_good ok y hy).1)
theorem order_ne {m : Mc} (ok : m.Ok) : 0 < (order m).length := let ⟨_, i, _⟩ := order_inv ok; List.length_pos_of_mem i.hd
end K35
set_option Elab.async false
set_option linter.all false
set_option maxRecDepth 100000
set_option maxHeartbeats 4000000
namespace K35
open PySem PySem.Spec L2 DW
def top (i : Nat) : Stmt := PySem.Challenge.pw_grammarhall_k35_whole_actions.main.body.getD i (.Pass ⟨0, 0, 0, 0⟩)
abbrev s_state_from : Stmt := top 4
abbrev n_state_from : List Str := ["machine", "state", "word", "alphabet", "table", "_", "sign"]
theorem sc_state_from : FnScope n_state_from ["machine", "state", "word"] (defScope s_state_from) := ⟨rfl, rfl, rfl, by decide +kernel, rfl, by decide +kernel, by decide +kernel⟩
structure C_state_from (P : Program) (w : World) (K : PySem.W.Frag) (mg : Str → Option Value) (base : Heap) : Prop where
  none : True
set_option maxHeartbeats 1600000 in
def D_state_from : PSigma fun ws : PySem.W.Frag → WS => ∀ {P : Program} {w : World} {K : PySem.W.Frag} {mg : Str → Option Value} {base : Heap} (T : TT0 K mg) (c : C_state_from P w K mg base) (f : Addr) (cdv : Value) (A : Around) (outer : List Env) (s : Shared) (H : Hp) (E : XK) (G : Gd) (hr : Room 0 (A.deeper (PyProof.Rows.envOfC "state_from" (defScope s_state_from) s.heap.objs.size f cdv))),
    DSs (cxOf CX0 P w K mg base n_state_from "state_from" (defScope s_state_from) f cdv A outer s H E).nox G wTrue ((defBody s_state_from)) (ws K) := ⟨_, fun {P w K mg base} T c f cdv A outer s H E G hr =>
  have hu1 := (room_units hr).1; have hu64 := (room_units hr).2.1; have hu65 := (room_units hr).2.2;
  (ds_cons (ds_asg (ps_asg (de_var (pv 0)) (dg_tup (n := 3) rfl (dgs_cons (dg_name (pg_name (i := 3) sc_state_from.nd rfl (.inl rfl))) (dgs_cons (dg_name (pg_name (i := 4) sc_state_from.nd rfl (.inl rfl))) (dgs_cons (dg_name (pg_name (i := 5) sc_state_from.nd rfl (.inl rfl))) dgs_nil))))))
 (ds_cons (ds_for (ps_for PassesOwn.never rfl (di_str (de_var (pv 2))) (dg_name (pg_name (i := 6) sc_state_from.nd rfl (.inl rfl))) (ds_one (ds_set (i := 1) (ps_set sc_state_from.nd rfl (.inl rfl) (de_ix (de_ix (de_var (pv 4)) (de_var (pv 1))) (de_mt (pe_bm PySem.F.plainAttrs_str PySem.F.slot_str_index PySem.F.type_str_index mt_sindex (de_var (pv 3)) (da_cons (de_var (pv 6)) da_nil)) mtD_sindex)))))))
 (ds_one (ds_ret (ps_ret (de_var (pv 1)))))))⟩
abbrev s_action_of : Stmt := top 7
abbrev n_action_of : List Str := ["machine", "word", "state"]
theorem sc_action_of : FnScope n_action_of ["machine", "word"] (defScope s_action_of) := ⟨rfl, rfl, rfl, by decide +kernel, rfl, by decide +kernel, by decide +kernel⟩
structure C_action_of (P : Program) (w : World) (K : PySem.W.Frag) (mg : Str → Option Value) (base : Heap) : Prop where
  state_from : C8.Cal P w K mg base 1 "state_from" (dSp K 3 S_state_from) []
set_option maxHeartbeats 1600000 in
def D_action_of : PSigma fun ws : PySem.W.Frag → WS => ∀ {P : Program} {w : World} {K : PySem.W.Frag} {mg : Str → Option Value} {base : Heap} (T : TT0 K mg) (c : C_action_of P w K mg base) (f : Addr) (cdv : Value) (A : Around) (outer : List Env) (s : Shared) (H : Hp) (E : XK) (G : Gd) (hr : Room 1 (A.deeper (PyProof.Rows.envOfC "action_of" (defScope s_action_of) s.heap.objs.size f cdv))),
    DSs (cxOf CX0 P w K mg base n_action_of "action_of" (defScope s_action_of) f cdv A outer s H E).nox G wTrue ((defBody s_action_of)) (ws K) := ⟨_, fun {P w K mg base} T c f cdv A outer s H E G hr =>
  have hu1 := (room_units hr).1; have hu64 := (room_units hr).2.1; have hu65 := (room_units hr).2.2;
  (ds_one (ds_ret (ps_ret (de_callB (pe_callTy call_tuple_of (by rfl) T.tuple (by decide +kernel) (da_cons (de_lc rfl sc_action_of.nd (di_range1 (st := true) (by rfl) T.range (da_cons (de_callB (pe_callB call_len (by rfl) T.len boot_len (da_cons (de_ix (de_var (pv 0)) de_int) da_nil)) callD_len) da_nil)) (blkOk_by (own := [("state", 2)]) (by kernel_rfl)) (fun _ _ _ _ _ => (dg_name (pg_name (i := 2) sc_action_of.nd rfl (.inl rfl)))) (fun _ _ _ _ _ => (de_c c.state_from (fun _ _ _ _ h => h) hr (by decide) (by rfl) (da_cons (de_var (pv 0)) (da_cons (de_var (pv 2)) (da_cons (de_var (pv 1)) da_nil)))))) da_nil)) callD_tuple))))⟩
abbrev s_behind : Stmt := top 8
abbrev n_behind : List Str := ["one", "other", "state"]
theorem sc_behind : FnScope n_behind ["one", "other"] (defScope s_behind) := ⟨rfl, rfl, rfl, by decide +kernel, rfl, by decide +kernel, by decide +kernel⟩
structure C_behind (P : Program) (w : World) (K : PySem.W.Frag) (mg : Str → Option Value) (base : Heap) : Prop where
  none : True
set_option maxHeartbeats 1600000 in
def D_behind : PSigma fun ws : PySem.W.Frag → WS => ∀ {P : Program} {w : World} {K : PySem.W.Frag} {mg : Str → Option Value} {base : Heap} (T : TT0 K mg) (c : C_behind P w K mg base) (f : Addr) (cdv : Value) (A : Around) (outer : List Env) (s : Shared) (H : Hp) (E : XK) (G : Gd) (hr : Room 0 (A.deeper (PyProof.Rows.envOfC "behind" (defScope s_behind) s.heap.objs.size f cdv))),
    DSs (cxOf CX0 P w K mg base n_behind "behind" (defScope s_behind) f cdv A outer s H E).nox G wTrue ((defBody s_behind)) (ws K) := ⟨_, fun {P w K mg base} T c f cdv A outer s H E G hr =>
  have hu1 := (room_units hr).1; have hu64 := (room_units hr).2.1; have hu65 := (room_units hr).2.2;
  (ds_one (ds_ret (ps_ret (de_callB (pe_callTy call_tuple_of (by rfl) T.tuple (by decide +kernel) (da_cons (de_lc rfl sc_behind.nd (di_tup (de_var (pv 0))) (blkOk_by (own := [("state", 2)]) (by kernel_rfl)) (fun _ _ _ _ _ => (dg_name (pg_name (i := 2) sc_behind.nd rfl (.inl rfl)))) (fun _ _ _ _ _ => (de_ix (de_var (pv 1)) (de_var (pv 2))))) da_nil)) callD_tuple))))⟩
abbrev s_actions_of : Stmt := top 9
abbrev n_actions_of : List Str := ["machine", "start", "words", "order", "at", "sign", "after", "action"]
theorem sc_actions_of : FnScope n_actions_of ["machine"] (defScope s_actions_of) := ⟨rfl, rfl, rfl, by decide +kernel, rfl, by decide +kernel, by decide +kernel⟩
structure C_actions_of (P : Program) (w : World) (K : PySem.W.Frag) (mg : Str → Option Value) (base : Heap) : Prop where
  action_of : C8.Cal P w K mg base 2 "action_of" (dSp K 2 S_action_of) []
  behind : C8.Cal P w K mg base 1 "behind" (dSp K 2 S_behind) []
set_option maxHeartbeats 1600000 in
def D_actions_of : PSigma fun ws : PySem.W.Frag → WS => ∀ {P : Program} {w : World} {K : PySem.W.Frag} {mg : Str → Option Value} {base : Heap} (T : TT0 K mg) (c : C_actions_of P w K mg base) (f : Addr) (cdv : Value) (A : Around) (outer : List Env) (s : Shared) (H : Hp) (E : XK) (G : Gd) (hr : Room 2 (A.deeper (PyProof.Rows.envOfC "actions_of" (defScope s_actions_of) s.heap.objs.size f cdv))),
    DSs (cxOf (L2.CX P w) P w K mg base n_actions_of "actions_of" (defScope s_actions_of) f cdv A outer s H E) G (fun cls d _ H => E cls d H) ((defBody s_actions_of)) (ws K) := ⟨_, fun {P w K mg base} T c f cdv A outer s H E G hr =>
  have hu1 := (room_units hr).1; have hu64 := (room_units hr).2.1; have hu65 := (room_units hr).2.2;
  have tk : Takes (cxOf (L2.CX P w) P w K mg base n_actions_of "actions_of" (defScope s_actions_of) f cdv A outer s H E) (fun cls d _ H => E cls d H) := takes_of rfl rfl rfl rfl; have pown : PassesOwn (model P w) (cxOf (L2.CX P w) P w K mg base n_actions_of "actions_of" (defScope s_actions_of) f cdv A outer s H E).A (cxOf (L2.CX P w) P w K mg base n_actions_of "actions_of" (defScope s_actions_of) f cdv A outer s H E).env (cxOf (L2.CX P w) P w K mg base n_actions_of "actions_of" (defScope s_actions_of) f cdv A outer s H E).xe := L2.passes_of rfl;
  (ds_cons (ds_set (i := 1) (ps_set sc_actions_of.nd rfl (.inl rfl) (de_tupR1 rfl (by rfl) T.tuple (by rfl) T.range (de_callB (pe_callB call_len (by rfl) T.len boot_len (da_cons (de_ix (de_var (pv 0)) de_int) da_nil)) callD_len))))
 (ds_cons (ds_set (i := 2) (ps_set sc_actions_of.nd rfl (.inr rfl) (de_dispT hu1 (de_var (pv 1)) de_str)))
 (ds_cons (ds_set (i := 3) (ps_set sc_actions_of.nd rfl (.inl rfl) (de_lst (da_cons (de_var (pv 1)) da_nil))))
 (ds_cons (ds_set (i := 4) (ps_set sc_actions_of.nd rfl (.inl rfl) de_int))
 (ds_cons (ds_while (ps_while pown (dt_lt (de_var (pv 4)) (de_callB (pe_callB call_len (by rfl) T.len boot_len (da_cons (de_var (pv 3)) da_nil)) callD_len)) (ds_cons (ds_for (ps_for pown rfl (di_str (de_ix (de_var (pv 0)) de_int)) (dg_name (pg_name (i := 5) sc_actions_of.nd rfl (.inl rfl))) (ds_cons (ds_set (i := 6) (ps_set sc_actions_of.nd rfl (.inl rfl) (de_c c.behind (fun _ _ _ _ h => h) hr (by decide) (by rfl) (da_cons (de_ix (de_var (pv 3)) (de_var (pv 4))) (da_cons (de_c c.action_of (fun _ _ _ _ h => h) hr (by decide) (by rfl) (da_cons (de_var (pv 0)) (da_cons (de_var (pv 5)) da_nil))) da_nil)))))
 (ds_one (ds_if (dt_dnotin hu1 (de_var (pv 6)) (de_var (pv 2))) (ds_cons (ds_put (i := 2) (ps_dput hu1 (pv 2) (de_var (pv 6)) (de_add (de_dget hu1 (de_var (pv 2)) (de_ix (de_var (pv 3)) (de_var (pv 4)))) (de_var (pv 5))) rfl))
 (ds_one (ds_append (i := 3) (ps_expr (pe_bm PySem.F.plainAttrs_list PySem.F.slot_list_append PySem.F.type_list_append mt_append (pv 3) (pa_cons (de_var (pv 6)) pa_nil)))))) ds_nil)))))
 (ds_cons (ds_aug (i := 4) opd_addI (ps_aug sc_actions_of.nd rfl (.inl rfl) de_int iop_add))
 (ds_one (ds_if (dt_gt (de_callB (pe_callB call_len (by rfl) T.len boot_len (da_cons (de_var (pv 3)) da_nil)) callD_len) (de_glI (by rfl) T.g_MOST_ACTIONS)) (ds_one (ds_raise0 rfl tk (pmk_own0 PySem.F.excBase_ValueError T.x_LargeError.exc T.x_LargeError.glo T.x_LargeError.keep (raises_own T.x_LargeError.sub T.x_LargeError.typ) (by rfl)))) ds_nil))))))
 (ds_one (ds_ret (ps_ret (de_callB (pe_callTy call_tuple_of (by rfl) T.tuple (by decide +kernel) (da_cons (de_lc rfl sc_actions_of.nd (di_listb (de_var (pv 3))) (blkOk_by (own := [("action", 7)]) (by kernel_rfl)) (fun _ _ _ _ _ => (dg_name (pg_name (i := 7) sc_actions_of.nd rfl (.inl rfl)))) (fun _ _ _ _ _ => (de_tup (da_cons (de_dget hu1 (de_var (pv 2)) (de_var (pv 7))) (da_cons (de_var (pv 7)) da_nil))))) da_nil)) callD_tuple)))))))))⟩
abbrev s_product_table : Stmt := top 10
abbrev n_product_table : List Str := ["machine", "found", "number", "_", "action", "k", "one", "other"]
theorem sc_product_table : FnScope n_product_table ["machine"] (defScope s_product_table) := ⟨rfl, rfl, rfl, by decide +kernel, rfl, by decide +kernel, by decide +kernel⟩
structure C_product_table (P : Program) (w : World) (K : PySem.W.Frag) (mg : Str → Option Value) (base : Heap) : Prop where
  behind : C8.Cal P w K mg base 1 "behind" (dSp K 2 S_behind) []
  actions_of : CalX P w K mg base 3 "actions_of" (dSp K 1 (S_actions_of K))
set_option maxHeartbeats 1600000 in
def D_product_table : PSigma fun ws : PySem.W.Frag → WS => ∀ {P : Program} {w : World} {K : PySem.W.Frag} {mg : Str → Option Value} {base : Heap} (T : TT0 K mg) (c : C_product_table P w K mg base) (f : Addr) (cdv : Value) (A : Around) (outer : List Env) (s : Shared) (H : Hp) (E : XK) (G : Gd) (hr : Room 3 (A.deeper (PyProof.Rows.envOfC "product_table" (defScope s_product_table) s.heap.objs.size f cdv))),
    DSs (cxOf (L2.CX P w) P w K mg base n_product_table "product_table" (defScope s_product_table) f cdv A outer s H E) G (fun cls d _ H => E cls d H) ((defBody s_product_table)) (ws K) := ⟨_, fun {P w K mg base} T c f cdv A outer s H E G hr =>
  have hu1 := (room_units hr).1; have hu64 := (room_units hr).2.1; have hu65 := (room_units hr).2.2;
  have tk : Takes (cxOf (L2.CX P w) P w K mg base n_product_table "product_table" (defScope s_product_table) f cdv A outer s H E) (fun cls d _ H => E cls d H) := takes_of rfl rfl rfl rfl; have pown : PassesOwn (model P w) (cxOf (L2.CX P w) P w K mg base n_product_table "product_table" (defScope s_product_table) f cdv A outer s H E).A (cxOf (L2.CX P w) P w K mg base n_product_table "product_table" (defScope s_product_table) f cdv A outer s H E).env (cxOf (L2.CX P w) P w K mg base n_product_table "product_table" (defScope s_product_table) f cdv A outer s H E).xe := L2.passes_of rfl;
  (ds_cons (ds_set (i := 1) (ps_set sc_product_table.nd rfl (.inr rfl) (de_lc rfl sc_product_table.nd (di_tup (de_cX c.actions_of tk hr (by decide) (by rfl) (da_cons (de_var (pv 0)) da_nil))) (blkOk_by (own := [("_", 3), ("action", 4)]) (by kernel_rfl)) (fun _ _ _ _ _ => (dg_tup (n := 2) rfl (dgs_cons (dg_name (pg_name (i := 3) sc_product_table.nd rfl (.inl rfl))) (dgs_cons (dg_name (pg_name (i := 4) sc_product_table.nd rfl (.inl rfl))) dgs_nil)))) (fun _ _ _ _ _ => (de_var (pv 4))))))
 (ds_cons (ds_freeze (i := 1) (ds_set (i := 2) (ps_set sc_product_table.nd rfl (.inr rfl) (de_dc (.inr ⟨rfl, rfl⟩) hu1 rfl sc_product_table.nd (di_enum (by rfl) T.enumerate (da_cons (de_var (pv 1)) da_nil)) (blkOk_by (own := [("k", 5), ("action", 4)]) (by kernel_rfl)) (fun _ _ _ _ _ => (dg_tup (n := 2) rfl (dgs_cons (dg_name (pg_name (i := 5) sc_product_table.nd rfl (.inl rfl))) (dgs_cons (dg_name (pg_name (i := 4) sc_product_table.nd rfl (.inl rfl))) dgs_nil)))) (fun _ _ _ _ _ => (de_var (pv 4))) (fun _ _ _ _ _ => (de_var (pv 5)))))))
 (ds_one (ds_ret (ps_ret (de_callB (pe_callTy call_tuple_of (by rfl) T.tuple (by decide +kernel) (da_cons (de_lc rfl sc_product_table.nd (di_list (de_var (pv 1))) (blkOk_by (own := [("one", 6)]) (by kernel_rfl)) (fun _ _ _ _ _ => (dg_name (pg_name (i := 6) sc_product_table.nd rfl (.inr rfl)))) (fun _ _ _ _ _ => (de_callB (pe_callTy call_tuple_of (by rfl) T.tuple (by decide +kernel) (da_cons (de_lc rfl sc_product_table.nd (di_list (de_var (pv 1))) (blkOk_by (own := [("other", 7)]) (by kernel_rfl)) (fun _ _ _ _ _ => (dg_name (pg_name (i := 7) sc_product_table.nd rfl (.inl rfl)))) (fun _ _ _ _ _ => (de_dget hu1 (de_var (pv 2)) (de_c c.behind (fun _ _ _ _ h => h) hr (by decide) (by rfl) (da_cons (de_var (pv 6)) (da_cons (de_var (pv 7)) da_nil)))))) da_nil)) callD_tuple))) da_nil)) callD_tuple))))))⟩
abbrev s_index_of : Stmt := top 11
abbrev n_index_of : List Str := ["action", "start", "seen", "own"]
theorem sc_index_of : FnScope n_index_of ["action"] (defScope s_index_of) := ⟨rfl, rfl, rfl, by decide +kernel, rfl, by decide +kernel, by decide +kernel⟩
structure C_index_of (P : Program) (w : World) (K : PySem.W.Frag) (mg : Str → Option Value) (base : Heap) : Prop where
  behind : C8.Cal P w K mg base 1 "behind" (dSp K 2 S_behind) []
set_option maxHeartbeats 1600000 in
def D_index_of : PSigma fun ws : PySem.W.Frag → WS => ∀ {P : Program} {w : World} {K : PySem.W.Frag} {mg : Str → Option Value} {base : Heap} (T : TT0 K mg) (c : C_index_of P w K mg base) (f : Addr) (cdv : Value) (A : Around) (outer : List Env) (s : Shared) (H : Hp) (E : XK) (G : Gd) (hr : Room 1 (A.deeper (PyProof.Rows.envOfC "index_of" (defScope s_index_of) s.heap.objs.size f cdv))),
    DSs (cxOf CX0 P w K mg base n_index_of "index_of" (defScope s_index_of) f cdv A outer s H E).nox G wTrue ((defBody s_index_of)) (ws K) := ⟨_, fun {P w K mg base} T c f cdv A outer s H E G hr =>
  have hu1 := (room_units hr).1; have hu64 := (room_units hr).2.1; have hu65 := (room_units hr).2.2;
  (ds_cons (ds_set (i := 1) (ps_set sc_index_of.nd rfl (.inl rfl) (de_tupR1 rfl (by rfl) T.tuple (by rfl) T.range (de_callB (pe_callB call_len (by rfl) T.len boot_len (da_cons (de_var (pv 0)) da_nil)) callD_len))))
 (ds_cons (ds_set (i := 2) (ps_set sc_index_of.nd rfl (.inl rfl) (de_dispT hu1 (de_var (pv 1)) de_int)))
 (ds_cons (ds_set (i := 3) (ps_set sc_index_of.nd rfl (.inl rfl) (de_c c.behind (fun _ _ _ _ h => h) hr (by decide) (by rfl) (da_cons (de_var (pv 1)) (da_cons (de_var (pv 0)) da_nil)))))
 (ds_cons (ds_while (ps_while PassesOwn.never (dt_dnotin hu1 (de_var (pv 3)) (de_var (pv 2))) (ds_cons (ds_put (i := 2) (ps_dput hu1 (pv 2) (de_var (pv 3)) (de_callB (pe_callB call_len_dT (by rfl) T.len boot_len (da_cons (de_var (pv 2)) da_nil)) callD_lenT) rfl))
 (ds_one (ds_set (i := 3) (ps_set sc_index_of.nd rfl (.inl rfl) (de_c c.behind (fun _ _ _ _ h => h) hr (by decide) (by rfl) (da_cons (de_var (pv 3)) (da_cons (de_var (pv 0)) da_nil)))))))))
 (ds_one (ds_ret (ps_ret (de_tup (da_cons (de_dget hu1 (de_var (pv 2)) (de_var (pv 3))) (da_cons (de_sub (de_callB (pe_callB call_len_dT (by rfl) T.len boot_len (da_cons (de_var (pv 2)) da_nil)) callD_lenT) (de_dget hu1 (de_var (pv 2)) (de_var (pv 3)))) da_nil))))))))))⟩
abbrev s_index_and_period : Stmt := top 12
abbrev n_index_and_period : List Str := ["machine", "word"]
theorem sc_index_and_period : FnScope n_index_and_period ["machine", "word"] (defScope s_index_and_period) := ⟨rfl, rfl, rfl, by decide +kernel, rfl, by decide +kernel, by decide +kernel⟩
structure C_index_and_period (P : Program) (w : World) (K : PySem.W.Frag) (mg : Str → Option Value) (base : Heap) : Prop where
  action_of : C8.Cal P w K mg base 2 "action_of" (dSp K 2 S_action_of) []
  index_of : C8.Cal P w K mg base 2 "index_of" (dSp K 1 S_index_of) []
set_option maxHeartbeats 1600000 in
def D_index_and_period : PSigma fun ws : PySem.W.Frag → WS => ∀ {P : Program} {w : World} {K : PySem.W.Frag} {mg : Str → Option Value} {base : Heap} (T : TT0 K mg) (c : C_index_and_period P w K mg base) (f : Addr) (cdv : Value) (A : Around) (outer : List Env) (s : Shared) (H : Hp) (E : XK) (G : Gd) (hr : Room 2 (A.deeper (PyProof.Rows.envOfC "index_and_period" (defScope s_index_and_period) s.heap.objs.size f cdv))),
    DSs (cxOf CX0 P w K mg base n_index_and_period "index_and_period" (defScope s_index_and_period) f cdv A outer s H E).nox G wTrue ((defBody s_index_and_period)) (ws K) := ⟨_, fun {P w K mg base} T c f cdv A outer s H E G hr =>
  have hu1 := (room_units hr).1; have hu64 := (room_units hr).2.1; have hu65 := (room_units hr).2.2;
  (ds_one (ds_ret (ps_ret (de_c c.index_of (fun _ _ _ _ h => h) hr (by decide) (by rfl) (da_cons (de_c c.action_of (fun _ _ _ _ h => h) hr (by decide) (by rfl) (da_cons (de_var (pv 0)) (da_cons (de_var (pv 1)) da_nil))) da_nil)))))⟩
abbrev s_counting : Stmt := top 13
abbrev n_counting : List Str := ["machine", "most", "word", "action", "index", "period"]
theorem sc_counting : FnScope n_counting ["machine"] (defScope s_counting) := ⟨rfl, rfl, rfl, by decide +kernel, rfl, by decide +kernel, by decide +kernel⟩
structure C_counting (P : Program) (w : World) (K : PySem.W.Frag) (mg : Str → Option Value) (base : Heap) : Prop where
  actions_of : CalX P w K mg base 3 "actions_of" (dSp K 1 (S_actions_of K))
  index_of : C8.Cal P w K mg base 2 "index_of" (dSp K 1 S_index_of) []
set_option maxHeartbeats 1600000 in
def D_counting : PSigma fun ws : PySem.W.Frag → WS => ∀ {P : Program} {w : World} {K : PySem.W.Frag} {mg : Str → Option Value} {base : Heap} (T : TT0 K mg) (c : C_counting P w K mg base) (f : Addr) (cdv : Value) (A : Around) (outer : List Env) (s : Shared) (H : Hp) (E : XK) (G : Gd) (hr : Room 3 (A.deeper (PyProof.Rows.envOfC "counting" (defScope s_counting) s.heap.objs.size f cdv))),
    DSs (cxOf (L2.CX P w) P w K mg base n_counting "counting" (defScope s_counting) f cdv A outer s H E) G (fun cls d _ H => E cls d H) ((defBody s_counting)) (ws K) := ⟨_, fun {P w K mg base} T c f cdv A outer s H E G hr =>
  have hu1 := (room_units hr).1; have hu64 := (room_units hr).2.1; have hu65 := (room_units hr).2.2;
  have tk : Takes (cxOf (L2.CX P w) P w K mg base n_counting "counting" (defScope s_counting) f cdv A outer s H E) (fun cls d _ H => E cls d H) := takes_of rfl rfl rfl rfl; have pown : PassesOwn (model P w) (cxOf (L2.CX P w) P w K mg base n_counting "counting" (defScope s_counting) f cdv A outer s H E).A (cxOf (L2.CX P w) P w K mg base n_counting "counting" (defScope s_counting) f cdv A outer s H E).env (cxOf (L2.CX P w) P w K mg base n_counting "counting" (defScope s_counting) f cdv A outer s H E).xe := L2.passes_of rfl;
  (ds_cons (ds_set (i := 1) (ps_set sc_counting.nd rfl (.inl rfl) de_int))
 (ds_cons (ds_for (ps_for pown rfl (di_tup (de_cX c.actions_of tk hr (by decide) (by rfl) (da_cons (de_var (pv 0)) da_nil))) (dg_tup (n := 2) rfl (dgs_cons (dg_name (pg_name (i := 2) sc_counting.nd rfl (.inl rfl))) (dgs_cons (dg_name (pg_name (i := 3) sc_counting.nd rfl (.inl rfl))) dgs_nil))) (ds_cons (ds_asg (ps_asg (de_c c.index_of (fun _ _ _ _ h => h) hr (by decide) (by rfl) (da_cons (de_var (pv 3)) da_nil)) (dg_tup (n := 2) rfl (dgs_cons (dg_name (pg_name (i := 4) sc_counting.nd rfl (.inl rfl))) (dgs_cons (dg_name (pg_name (i := 5) sc_counting.nd rfl (.inl rfl))) dgs_nil)))))
 (ds_cons (ds_if (dt_gt (de_var (pv 5)) de_int) (ds_one (ds_ret (ps_ret (de_tup (da_cons de_str (da_cons (de_var (pv 2)) (da_cons (de_var (pv 5)) da_nil))))))) ds_nil)
 (ds_one (ds_set (i := 1) (ps_set sc_counting.nd rfl (.inl rfl) (de_callB (pe_callB (call_max2 rfl) (by rfl) T.max (by decide +kernel) (da_cons (de_var (pv 1)) (da_cons (de_var (pv 4)) da_nil))) callD_max2))))))))
 (ds_one (ds_ret (ps_ret (de_tup (da_cons de_str (da_cons (de_var (pv 1)) da_nil))))))))⟩
abbrev s_stays : Stmt := top 14
abbrev n_stays : List Str := ["machine", "found", "_", "action", "k"]
theorem sc_stays : FnScope n_stays ["machine"] (defScope s_stays) := ⟨rfl, rfl, rfl, by decide +kernel, rfl, by decide +kernel, by decide +kernel⟩
structure C_stays (P : Program) (w : World) (K : PySem.W.Frag) (mg : Str → Option Value) (base : Heap) : Prop where
  behind : C8.Cal P w K mg base 1 "behind" (dSp K 2 S_behind) []
  actions_of : CalX P w K mg base 3 "actions_of" (dSp K 1 (S_actions_of K))
set_option maxHeartbeats 1600000 in
def D_stays : PSigma fun ws : PySem.W.Frag → WS => ∀ {P : Program} {w : World} {K : PySem.W.Frag} {mg : Str → Option Value} {base : Heap} (T : TT0 K mg) (c : C_stays P w K mg base) (f : Addr) (cdv : Value) (A : Around) (outer : List Env) (s : Shared) (H : Hp) (E : XK) (G : Gd) (hr : Room 3 (A.deeper (PyProof.Rows.envOfC "stays" (defScope s_stays) s.heap.objs.size f cdv))),
    DSs (cxOf (L2.CX P w) P w K mg base n_stays "stays" (defScope s_stays) f cdv A outer s H E) G (fun cls d _ H => E cls d H) ((defBody s_stays)) (ws K) := ⟨_, fun {P w K mg base} T c f cdv A outer s H E G hr =>
  have hu1 := (room_units hr).1; have hu64 := (room_units hr).2.1; have hu65 := (room_units hr).2.2;
  have tk : Takes (cxOf (L2.CX P w) P w K mg base n_stays "stays" (defScope s_stays) f cdv A outer s H E) (fun cls d _ H => E cls d H) := takes_of rfl rfl rfl rfl; have pown : PassesOwn (model P w) (cxOf (L2.CX P w) P w K mg base n_stays "stays" (defScope s_stays) f cdv A outer s H E).A (cxOf (L2.CX P w) P w K mg base n_stays "stays" (defScope s_stays) f cdv A outer s H E).env (cxOf (L2.CX P w) P w K mg base n_stays "stays" (defScope s_stays) f cdv A outer s H E).xe := L2.passes_of rfl;
  (ds_cons (ds_setLc (i := 1) rfl sc_stays.nd rfl rfl (sw_true rfl rfl rfl (by decide +kernel)) (di_tup (de_cX c.actions_of tk hr (by decide) (by rfl) (da_cons (de_var (pv 0)) da_nil))) (blkOk_by (own := [("_", 2), ("action", 3)]) (by kernel_rfl)) (fun _ _ _ _ _ => (dg_tup (n := 2) rfl (dgs_cons (dg_name (pg_name (i := 2) sc_stays.nd rfl (.inl rfl))) (dgs_cons (dg_name (pg_name (i := 3) sc_stays.nd rfl (.inl rfl))) dgs_nil)))) (fun _ _ _ _ _ => (de_var (pv 3))))
 (ds_one (ds_freeze (i := 1) (ds_ret (ps_ret (de_callB (pe_callTy call_tuple_of (by rfl) T.tuple (by decide +kernel) (da_cons (de_lcIf rfl sc_stays.nd (di_enum (by rfl) T.enumerate (da_cons (de_var (pv 1)) da_nil)) (blkOk_by (own := [("k", 4), ("action", 3)]) (by kernel_rfl)) (fun _ _ _ _ _ => (dg_tup (n := 2) rfl (dgs_cons (dg_name (pg_name (i := 4) sc_stays.nd rfl (.inl rfl))) (dgs_cons (dg_name (pg_name (i := 3) sc_stays.nd rfl (.inl rfl))) dgs_nil)))) (fun _ _ _ _ _ => (dt_eq hu64 (de_c c.behind (fun _ _ _ _ h => h) hr (by decide) (by rfl) (da_cons (de_var (pv 3)) (da_cons (de_var (pv 3)) da_nil))) (de_var (pv 3)))) (fun _ _ _ _ _ => (de_var (pv 4)))) da_nil)) callD_tuple))))))⟩
abbrev s__law_pick : Stmt := top 18
abbrev n__law_pick : List Str := ["d", "menu"]
theorem sc__law_pick : FnScope n__law_pick ["d", "menu"] (defScope s__law_pick) := ⟨rfl, rfl, rfl, by decide +kernel, rfl, by decide +kernel, by decide +kernel⟩
structure C__law_pick (P : Program) (w : World) (K : PySem.W.Frag) (mg : Str → Option Value) (base : Heap) : Prop where
  _law_take : C8.Cal P w K mg base 1 "_law_take" (dSp K 2 S__law_take) []
set_option maxHeartbeats 1600000 in
def D__law_pick : PSigma fun ws : PySem.W.Frag → WS => ∀ {P : Program} {w : World} {K : PySem.W.Frag} {mg : Str → Option Value} {base : Heap} (T : TT0 K mg) (c : C__law_pick P w K mg base) (f : Addr) (cdv : Value) (A : Around) (outer : List Env) (s : Shared) (H : Hp) (E : XK) (G : Gd) (hr : Room 1 (A.deeper (PyProof.Rows.envOfC "_law_pick" (defScope s__law_pick) s.heap.objs.size f cdv))),
    DSs (cxOf CX0 P w K mg base n__law_pick "_law_pick" (defScope s__law_pick) f cdv A outer s H E).nox G wTrue ((defBody s__law_pick)) (ws K) := ⟨_, fun {P w K mg base} T c f cdv A outer s H E G hr =>
  have hu1 := (room_units hr).1; have hu64 := (room_units hr).2.1; have hu65 := (room_units hr).2.2;
  (ds_one (ds_ret (ps_ret (de_ix (de_var (pv 1)) (de_c c._law_take (fun _ _ _ _ h => h) hr (by decide) (by rfl) (da_cons (de_var (pv 0)) (da_cons (de_callB (pe_callB call_len (by rfl) T.len boot_len (da_cons (de_var (pv 1)) da_nil)) callD_len) da_nil)))))))⟩
abbrev s__law_all : Stmt := top 19
abbrev n__law_all : List Str := ["alphabet", "length", "level", "words", "k"]
theorem sc__law_all : FnScope n__law_all ["alphabet", "length"] (defScope s__law_all) := ⟨rfl, rfl, rfl, by decide +kernel, rfl, by decide +kernel, by decide +kernel⟩
structure C__law_all (P : Program) (w : World) (K : PySem.W.Frag) (mg : Str → Option Value) (base : Heap) : Prop where
  _law_longer : C8.Cal P w K mg base 1 "_law_longer" (dSp K 2 S__law_longer) []
set_option maxHeartbeats 1600000 in
def D__law_all : PSigma fun ws : PySem.W.Frag → WS => ∀ {P : Program} {w : World} {K : PySem.W.Frag} {mg : Str → Option Value} {base : Heap} (T : TT0 K mg) (c : C__law_all P w K mg base) (f : Addr) (cdv : Value) (A : Around) (outer : List Env) (s : Shared) (H : Hp) (E : XK) (G : Gd) (hr : Room 1 (A.deeper (PyProof.Rows.envOfC "_law_all" (defScope s__law_all) s.heap.objs.size f cdv))),
    DSs (cxOf CX0 P w K mg base n__law_all "_law_all" (defScope s__law_all) f cdv A outer s H E).nox G wTrue ((defBody s__law_all)) (ws K) := ⟨_, fun {P w K mg base} T c f cdv A outer s H E G hr =>
  have hu1 := (room_units hr).1; have hu64 := (room_units hr).2.1; have hu65 := (room_units hr).2.2;
  (ds_cons (ds_set (i := 2) (ps_set sc__law_all.nd rfl (.inl rfl) (de_lst (da_cons de_str da_nil))))
 (ds_cons (ds_set (i := 3) (ps_set sc__law_all.nd rfl (.inl rfl) (de_lst (da_cons de_str da_nil))))
 (ds_cons (ds_for (ps_for PassesOwn.never rfl (di_range1 (st := true) (by rfl) T.range (da_cons (de_var (pv 1)) da_nil)) (dg_name (pg_name (i := 4) sc__law_all.nd rfl (.inl rfl))) (ds_cons (ds_freeze (i := 2) (ds_set (i := 2) (ps_set sc__law_all.nd rfl (.inl rfl) (de_c c._law_longer (fun _ _ _ _ h => h) hr (by decide) (by rfl) (da_cons (de_var (pv 0)) (da_cons (de_var (pv 2)) da_nil))))))
 (ds_one (ds_set (i := 3) (ps_set sc__law_all.nd rfl (.inl rfl) (de_add (de_var (pv 3)) (de_var (pv 2)))))))))
 (ds_one (ds_retV (ps_ret (pv 3)))))))⟩
abbrev s__law_longer : Stmt := top 20
abbrev n__law_longer : List Str := ["alphabet", "level", "words", "word", "sign"]
theorem sc__law_longer : FnScope n__law_longer ["alphabet", "level"] (defScope s__law_longer) := ⟨rfl, rfl, rfl, by decide +kernel, rfl, by decide +kernel, by decide +kernel⟩
structure C__law_longer (P : Program) (w : World) (K : PySem.W.Frag) (mg : Str → Option Value) (base : Heap) : Prop where
  none : True
set_option maxHeartbeats 1600000 in
def D__law_longer : PSigma fun ws : PySem.W.Frag → WS => ∀ {P : Program} {w : World} {K : PySem.W.Frag} {mg : Str → Option Value} {base : Heap} (T : TT0 K mg) (c : C__law_longer P w K mg base) (f : Addr) (cdv : Value) (A : Around) (outer : List Env) (s : Shared) (H : Hp) (E : XK) (G : Gd) (hr : Room 0 (A.deeper (PyProof.Rows.envOfC "_law_longer" (defScope s__law_longer) s.heap.objs.size f cdv))),
    DSs (cxOf CX0 P w K mg base n__law_longer "_law_longer" (defScope s__law_longer) f cdv A outer s H E).nox G wTrue ((defBody s__law_longer)) (ws K) := ⟨_, fun {P w K mg base} T c f cdv A outer s H E G hr =>
  have hu1 := (room_units hr).1; have hu64 := (room_units hr).2.1; have hu65 := (room_units hr).2.2;
  (ds_cons (ds_set (i := 2) (ps_set sc__law_longer.nd rfl (.inl rfl) (de_lst da_nil)))
 (ds_cons (ds_for (ps_for PassesOwn.never rfl (di_list (de_var (pv 1))) (dg_name (pg_name (i := 3) sc__law_longer.nd rfl (.inr rfl))) (ds_one (ds_extend (i := 2) (ps_expr (pe_bm PySem.F.plainAttrs_list PySem.F.slot_list_extend PySem.F.type_list_extend mt_extend (pv 2) (pa_cons (de_lc rfl sc__law_longer.nd (di_str (de_var (pv 0))) (blkOk_by (own := [("sign", 4)]) (by kernel_rfl)) (fun _ _ _ _ _ => (dg_name (pg_name (i := 4) sc__law_longer.nd rfl (.inl rfl)))) (fun _ _ _ _ _ => (de_add (de_var (pv 3)) (de_var (pv 4))))) pa_nil)))))))
 (ds_one (ds_retV (ps_ret (pv 2))))))⟩
abbrev s__law_machine : Stmt := top 21
abbrev n__law_machine : List Str := ["d", "most", "alphabet", "many", "table", "state", "sign"]
theorem sc__law_machine : FnScope n__law_machine ["d", "most"] (defScope s__law_machine) := ⟨rfl, rfl, rfl, by decide +kernel, rfl, by decide +kernel, by decide +kernel⟩
structure C__law_machine (P : Program) (w : World) (K : PySem.W.Frag) (mg : Str → Option Value) (base : Heap) : Prop where
  _law_take : C8.Cal P w K mg base 1 "_law_take" (dSp K 2 S__law_take) []
  _law_pick : C8.Cal P w K mg base 2 "_law_pick" (dSp K 2 S__law_pick) []
set_option maxHeartbeats 1600000 in
def D__law_machine : PSigma fun ws : PySem.W.Frag → WS => ∀ {P : Program} {w : World} {K : PySem.W.Frag} {mg : Str → Option Value} {base : Heap} (T : TT0 K mg) (c : C__law_machine P w K mg base) (f : Addr) (cdv : Value) (A : Around) (outer : List Env) (s : Shared) (H : Hp) (E : XK) (G : Gd) (hr : Room 2 (A.deeper (PyProof.Rows.envOfC "_law_machine" (defScope s__law_machine) s.heap.objs.size f cdv))),
    DSs (cxOf CX0 P w K mg base n__law_machine "_law_machine" (defScope s__law_machine) f cdv A outer s H E).nox G wTrue ((defBody s__law_machine)) (ws K) := ⟨_, fun {P w K mg base} T c f cdv A outer s H E G hr =>
  have hu1 := (room_units hr).1; have hu64 := (room_units hr).2.1; have hu65 := (room_units hr).2.2;
  (ds_cons (ds_set (i := 2) (ps_set sc__law_machine.nd rfl (.inr rfl) (de_c c._law_pick (fun _ _ _ _ h => h) hr (by decide) (by rfl) (da_cons (de_var (pv 0)) (da_fcons (de_lst (da_cons de_str (da_cons de_str (da_cons de_str (da_cons de_str da_nil))))) da_nil)))))
 (ds_cons (ds_set (i := 3) (ps_set sc__law_machine.nd rfl (.inr rfl) (de_add de_int (de_c c._law_take (fun _ _ _ _ h => h) hr (by decide) (by rfl) (da_cons (de_var (pv 0)) (da_cons (de_var (pv 1)) da_nil))))))
 (ds_cons (ds_set (i := 4) (ps_set sc__law_machine.nd rfl (.inl rfl) (de_callB (pe_callTy call_tuple_of (by rfl) T.tuple (by decide +kernel) (da_cons (de_lc rfl sc__law_machine.nd (di_range1 (st := true) (by rfl) T.range (da_cons (de_var (pv 3)) da_nil)) (blkOk_by (own := [("state", 5)]) (by kernel_rfl)) (fun _ _ _ _ _ => (dg_name (pg_name (i := 5) sc__law_machine.nd rfl (.inl rfl)))) (fun _ _ _ _ _ => (de_callB (pe_callTy call_tuple_of (by rfl) T.tuple (by decide +kernel) (da_cons (de_lc rfl sc__law_machine.nd (di_str (de_var (pv 2))) (blkOk_by (own := [("sign", 6)]) (by kernel_rfl)) (fun _ _ _ _ _ => (dg_name (pg_name (i := 6) sc__law_machine.nd rfl (.inl rfl)))) (fun _ _ _ _ _ => (de_c c._law_take (fun _ _ _ _ h => h) hr (by decide) (by rfl) (da_cons (de_var (pv 0)) (da_cons (de_var (pv 3)) da_nil))))) da_nil)) callD_tuple))) da_nil)) callD_tuple)))
 (ds_one (ds_ret (ps_ret (de_tup (da_cons (de_var (pv 2)) (da_cons (de_var (pv 4)) (da_cons (de_callB (pe_callTy call_tuple_of (by rfl) T.tuple (by decide +kernel) (da_cons (de_lcIf rfl sc__law_machine.nd (di_range1 (st := true) (by rfl) T.range (da_cons (de_var (pv 3)) da_nil)) (blkOk_by (own := [("state", 5)]) (by kernel_rfl)) (fun _ _ _ _ _ => (dg_name (pg_name (i := 5) sc__law_machine.nd rfl (.inl rfl)))) (fun _ _ _ _ _ => (dt_eq hu64 (de_c c._law_take (fun _ _ _ _ h => h) hr (by decide) (by rfl) (da_cons (de_var (pv 0)) (da_cons de_int da_nil))) de_int)) (fun _ _ _ _ _ => (de_var (pv 5)))) da_nil)) callD_tuple) da_nil))))))))))⟩
abbrev s__law_state : Stmt := top 22
abbrev n__law_state : List Str := ["machine", "state", "word", "sign"]
theorem sc__law_state : FnScope n__law_state ["machine", "state", "word"] (defScope s__law_state) := ⟨rfl, rfl, rfl, by decide +kernel, rfl, by decide +kernel, by decide +kernel⟩
structure C__law_state (P : Program) (w : World) (K : PySem.W.Frag) (mg : Str → Option Value) (base : Heap) : Prop where
  none : True
set_option maxHeartbeats 1600000 in
def D__law_state : PSigma fun ws : PySem.W.Frag → WS => ∀ {P : Program} {w : World} {K : PySem.W.Frag} {mg : Str → Option Value} {base : Heap} (T : TT0 K mg) (c : C__law_state P w K mg base) (f : Addr) (cdv : Value) (A : Around) (outer : List Env) (s : Shared) (H : Hp) (E : XK) (G : Gd) (hr : Room 0 (A.deeper (PyProof.Rows.envOfC "_law_state" (defScope s__law_state) s.heap.objs.size f cdv))),
    DSs (cxOf CX0 P w K mg base n__law_state "_law_state" (defScope s__law_state) f cdv A outer s H E).nox G wTrue ((defBody s__law_state)) (ws K) := ⟨_, fun {P w K mg base} T c f cdv A outer s H E G hr =>
  have hu1 := (room_units hr).1; have hu64 := (room_units hr).2.1; have hu65 := (room_units hr).2.2;
  (ds_cons (ds_for (ps_for PassesOwn.never rfl (di_str (de_var (pv 2))) (dg_name (pg_name (i := 3) sc__law_state.nd rfl (.inl rfl))) (ds_one (ds_set (i := 1) (ps_set sc__law_state.nd rfl (.inl rfl) (de_ix (de_ix (de_ix (de_var (pv 0)) de_int) (de_var (pv 1))) (de_mt (pe_bm PySem.F.plainAttrs_str PySem.F.slot_str_index PySem.F.type_str_index mt_sindex (de_ix (de_var (pv 0)) de_int) (da_cons (de_var (pv 3)) da_nil)) mtD_sindex)))))))
 (ds_one (ds_ret (ps_ret (de_var (pv 1))))))⟩
abbrev s__law_takes : Stmt := top 23
abbrev n__law_takes : List Str := ["machine", "word"]
theorem sc__law_takes : FnScope n__law_takes ["machine", "word"] (defScope s__law_takes) := ⟨rfl, rfl, rfl, by decide +kernel, rfl, by decide +kernel, by decide +kernel⟩
structure C__law_takes (P : Program) (w : World) (K : PySem.W.Frag) (mg : Str → Option Value) (base : Heap) : Prop where
  _law_state : C8.Cal P w K mg base 1 "_law_state" (dSp K 3 S__law_state) []
set_option maxHeartbeats 1600000 in
def D__law_takes : PSigma fun ws : PySem.W.Frag → WS => ∀ {P : Program} {w : World} {K : PySem.W.Frag} {mg : Str → Option Value} {base : Heap} (T : TT0 K mg) (c : C__law_takes P w K mg base) (f : Addr) (cdv : Value) (A : Around) (outer : List Env) (s : Shared) (H : Hp) (E : XK) (G : Gd) (hr : Room 1 (A.deeper (PyProof.Rows.envOfC "_law_takes" (defScope s__law_takes) s.heap.objs.size f cdv))),
    DSs (cxOf CX0 P w K mg base n__law_takes "_law_takes" (defScope s__law_takes) f cdv A outer s H E).nox G wTrue ((defBody s__law_takes)) (ws K) := ⟨_, fun {P w K mg base} T c f cdv A outer s H E G hr =>
  have hu1 := (room_units hr).1; have hu64 := (room_units hr).2.1; have hu65 := (room_units hr).2.2;
  (ds_one (ds_ret (ps_ret (de_inT (de_c c._law_state (fun _ _ _ _ h => h) hr (by decide) (by rfl) (da_cons (de_var (pv 0)) (da_cons de_int (da_cons (de_var (pv 1)) da_nil)))) (de_ix (de_var (pv 0)) de_int)))))⟩
abbrev s__law_told : Stmt := top 24
abbrev n__law_told : List Str := ["machine"]
theorem sc__law_told : FnScope n__law_told ["machine"] (defScope s__law_told) := ⟨rfl, rfl, rfl, by decide +kernel, rfl, by decide +kernel, by decide +kernel⟩
structure C__law_told (P : Program) (w : World) (K : PySem.W.Frag) (mg : Str → Option Value) (base : Heap) : Prop where
  actions_of : CalX P w K mg base 3 "actions_of" (dSp K 1 (S_actions_of K))
set_option maxHeartbeats 1600000 in
def D__law_told : PSigma fun ws : PySem.W.Frag → WS => ∀ {P : Program} {w : World} {K : PySem.W.Frag} {mg : Str → Option Value} {base : Heap} (T : TT0 K mg) (c : C__law_told P w K mg base) (f : Addr) (cdv : Value) (A : Around) (outer : List Env) (s : Shared) (H : Hp) (E : XK) (G : Gd) (hr : Room 3 (A.deeper (PyProof.Rows.envOfC "_law_told" (defScope s__law_told) s.heap.objs.size f cdv))),
    DSs (cxOf CX0 P w K mg base n__law_told "_law_told" (defScope s__law_told) f cdv A outer s H E).nox G wFalse ((defBody s__law_told)) (ws K) := ⟨_, fun {P w K mg base} T c f cdv A outer s H E G hr =>
  have hu1 := (room_units hr).1; have hu64 := (room_units hr).2.1; have hu65 := (room_units hr).2.2;
  have tk : Takes (cxOf CX0 P w K mg base n__law_told "_law_told" (defScope s__law_told) f cdv A outer s H E).nox wFalse := takes_nox;
  (ds_one (ds_try (m := fun D => PySem.W.exmOne K (.ref D) (.ref (He.ga K "LargeError"))) (fun _ => rfl) rfl rfl ⟨by rfl, by decide, .inl T.x_LargeError.glo⟩ tk (fun W2 pn xe tk2 => (ds_one (ds_ret (ps_ret (de_cX c.actions_of tk2 hr (by decide) (by rfl) (da_cons (de_var (pv 0)) da_nil)))))) (fun _ _ => (ds_one (ds_ret (ps_ret de_non))))))⟩
abbrev s__law_do : Stmt := top 25
abbrev n__law_do : List Str := ["one", "other", "state"]
theorem sc__law_do : FnScope n__law_do ["one", "other"] (defScope s__law_do) := ⟨rfl, rfl, rfl, by decide +kernel, rfl, by decide +kernel, by decide +kernel⟩
structure C__law_do (P : Program) (w : World) (K : PySem.W.Frag) (mg : Str → Option Value) (base : Heap) : Prop where
  none : True
set_option maxHeartbeats 1600000 in
def D__law_do : PSigma fun ws : PySem.W.Frag → WS => ∀ {P : Program} {w : World} {K : PySem.W.Frag} {mg : Str → Option Value} {base : Heap} (T : TT0 K mg) (c : C__law_do P w K mg base) (f : Addr) (cdv : Value) (A : Around) (outer : List Env) (s : Shared) (H : Hp) (E : XK) (G : Gd) (hr : Room 0 (A.deeper (PyProof.Rows.envOfC "_law_do" (defScope s__law_do) s.heap.objs.size f cdv))),
    DSs (cxOf CX0 P w K mg base n__law_do "_law_do" (defScope s__law_do) f cdv A outer s H E).nox G wTrue ((defBody s__law_do)) (ws K) := ⟨_, fun {P w K mg base} T c f cdv A outer s H E G hr =>
  have hu1 := (room_units hr).1; have hu64 := (room_units hr).2.1; have hu65 := (room_units hr).2.2;
  (ds_one (ds_ret (ps_ret (de_callB (pe_callTy call_tuple_of (by rfl) T.tuple (by decide +kernel) (da_cons (de_lc rfl sc__law_do.nd (di_tup (de_var (pv 0))) (blkOk_by (own := [("state", 2)]) (by kernel_rfl)) (fun _ _ _ _ _ => (dg_name (pg_name (i := 2) sc__law_do.nd rfl (.inl rfl)))) (fun _ _ _ _ _ => (de_ix (de_var (pv 1)) (de_var (pv 2))))) da_nil)) callD_tuple))))⟩
abbrev s__law_powers : Stmt := top 26
abbrev n__law_powers : List Str := ["action", "powers", "first"]
theorem sc__law_powers : FnScope n__law_powers ["action"] (defScope s__law_powers) := ⟨rfl, rfl, rfl, by decide +kernel, rfl, by decide +kernel, by decide +kernel⟩
structure C__law_powers (P : Program) (w : World) (K : PySem.W.Frag) (mg : Str → Option Value) (base : Heap) : Prop where
  _law_do : C8.Cal P w K mg base 1 "_law_do" (dSp K 2 S__law_do) []
set_option maxHeartbeats 1600000 in
def D__law_powers : PSigma fun ws : PySem.W.Frag → WS => ∀ {P : Program} {w : World} {K : PySem.W.Frag} {mg : Str → Option Value} {base : Heap} (T : TT0 K mg) (c : C__law_powers P w K mg base) (f : Addr) (cdv : Value) (A : Around) (outer : List Env) (s : Shared) (H : Hp) (E : XK) (G : Gd) (hr : Room 1 (A.deeper (PyProof.Rows.envOfC "_law_powers" (defScope s__law_powers) s.heap.objs.size f cdv))),
    DSs (cxOf CX0 P w K mg base n__law_powers "_law_powers" (defScope s__law_powers) f cdv A outer s H E).nox G wTrue ((defBody s__law_powers)) (ws K) := ⟨_, fun {P w K mg base} T c f cdv A outer s H E G hr =>
  have hu1 := (room_units hr).1; have hu64 := (room_units hr).2.1; have hu65 := (room_units hr).2.2;
  (ds_cons (ds_set (i := 1) (ps_set sc__law_powers.nd rfl (.inl rfl) (de_lst (da_cons (de_tupR1 rfl (by rfl) T.tuple (by rfl) T.range (de_callB (pe_callB call_len (by rfl) T.len boot_len (da_cons (de_var (pv 0)) da_nil)) callD_len)) da_nil))))
 (ds_cons (ds_while (ps_while PassesOwn.never (dt_notInL hu65 (de_c c._law_do (fun _ _ _ _ h => h) hr (by decide) (by rfl) (da_cons (de_ix (de_var (pv 1)) de_neg) (da_cons (de_var (pv 0)) da_nil))) (de_var (pv 1))) (ds_one (ds_append (i := 1) (ps_expr (pe_bm PySem.F.plainAttrs_list PySem.F.slot_list_append PySem.F.type_list_append mt_append (pv 1) (pa_cons (de_c c._law_do (fun _ _ _ _ h => h) hr (by decide) (by rfl) (da_cons (de_ix (de_var (pv 1)) de_neg) (da_cons (de_var (pv 0)) da_nil))) pa_nil)))))))
 (ds_cons (ds_set (i := 2) (ps_set sc__law_powers.nd rfl (.inl rfl) (de_mt (pe_bm PySem.F.plainAttrs_list PySem.F.slot_list_index PySem.F.type_list_index (mt_indexD hu65) (de_var (pv 1)) (da_cons (de_c c._law_do (fun _ _ _ _ h => h) hr (by decide) (by rfl) (da_cons (de_ix (de_var (pv 1)) de_neg) (da_cons (de_var (pv 0)) da_nil))) da_nil)) mtD_lindex)))
 (ds_one (ds_ret (ps_ret (de_tup (da_cons (de_var (pv 2)) (da_cons (de_sub (de_callB (pe_callB call_len (by rfl) T.len boot_len (da_cons (de_var (pv 1)) da_nil)) callD_len) (de_var (pv 2))) da_nil)))))))))⟩
abbrev s_law : Stmt := top 27
abbrev n_law : List Str := ["script", "d", "machine", "alphabet", "many", "order", "at", "sign", "after", "told", "actions", "powers", "counts", "due", "turn", "word", "action", "u", "v", "w", "own", "k", "state", "one", "other", "n"]
theorem sc_law : FnScope n_law ["script"] (defScope s_law) := ⟨rfl, rfl, rfl, by decide +kernel, rfl, by decide +kernel, by decide +kernel⟩
structure C_law (P : Program) (w : World) (K : PySem.W.Frag) (mg : Str → Option Value) (base : Heap) : Prop where
  action_of : C8.Cal P w K mg base 2 "action_of" (dSp K 2 S_action_of) []
  product_table : CalX P w K mg base 4 "product_table" (dSp K 1 (S_product_table K))
  index_and_period : C8.Cal P w K mg base 3 "index_and_period" (dSp K 2 S_index_and_period) []
  counting : CalX P w K mg base 4 "counting" (dSp K 1 (S_counting K))
  stays : CalX P w K mg base 4 "stays" (dSp K 1 (S_stays K))
  _law_pick : C8.Cal P w K mg base 2 "_law_pick" (dSp K 2 S__law_pick) []
  _law_all : C8.Cal P w K mg base 2 "_law_all" (dSp K 2 S__law_all) []
  _law_machine : C8.Cal P w K mg base 3 "_law_machine" (dSp K 2 S__law_machine) []
  _law_state : C8.Cal P w K mg base 1 "_law_state" (dSp K 3 S__law_state) []
  _law_takes : C8.Cal P w K mg base 2 "_law_takes" (dSp K 2 S__law_takes) []
  _law_told : C8.Cal P w K mg base 4 "_law_told" (dSp K 1 S__law_told) []
  _law_do : C8.Cal P w K mg base 1 "_law_do" (dSp K 2 S__law_do) []
  _law_powers : C8.Cal P w K mg base 2 "_law_powers" (dSp K 1 S__law_powers) []
set_option maxHeartbeats 1600000 in
def D_law : PSigma fun ws : PySem.W.Frag → WS => ∀ {P : Program} {w : World} {K : PySem.W.Frag} {mg : Str → Option Value} {base : Heap} (T : TT0 K mg) (c : C_law P w K mg base) (f : Addr) (cdv : Value) (A : Around) (outer : List Env) (s : Shared) (H : Hp) (E : XK) (G : Gd) (hr : Room 4 (A.deeper (PyProof.Rows.envOfC "law" (defScope s_law) s.heap.objs.size f cdv))),
    DSs (cxOf (L2.CX P w) P w K mg base n_law "law" (defScope s_law) f cdv A outer s H E) G (fun cls d _ H => E cls d H) ((defBody s_law).drop 1) (ws K) := ⟨_, fun {P w K mg base} T c f cdv A outer s H E G hr =>
  have hu1 := (room_units hr).1; have hu64 := (room_units hr).2.1; have hu65 := (room_units hr).2.2;
  have tk : Takes (cxOf (L2.CX P w) P w K mg base n_law "law" (defScope s_law) f cdv A outer s H E) (fun cls d _ H => E cls d H) := takes_of rfl rfl rfl rfl; have pown : PassesOwn (model P w) (cxOf (L2.CX P w) P w K mg base n_law "law" (defScope s_law) f cdv A outer s H E).A (cxOf (L2.CX P w) P w K mg base n_law "law" (defScope s_law) f cdv A outer s H E).env (cxOf (L2.CX P w) P w K mg base n_law "law" (defScope s_law) f cdv A outer s H E).xe := L2.passes_of rfl;
  (ds_cons (ds_set (i := 2) (ps_set sc_law.nd rfl (.inr rfl) (de_c c._law_machine (fun _ _ _ _ h => h) hr (by decide) (by rfl) (da_cons (de_var (pv 1)) (da_cons de_int da_nil)))))
 (ds_cons (ds_set (i := 3) (ps_set sc_law.nd rfl (.inr rfl) (de_ix (de_var (pv 2)) de_int)))
 (ds_cons (ds_set (i := 4) (ps_set sc_law.nd rfl (.inl rfl) (de_callB (pe_callB call_len (by rfl) T.len boot_len (da_cons (de_ix (de_var (pv 2)) de_int) da_nil)) callD_len)))
 (ds_cons (ds_set (i := 5) (ps_set sc_law.nd rfl (.inl rfl) (de_lst (da_cons (de_tup (da_cons de_str (da_cons (de_tupR1 rfl (by rfl) T.tuple (by rfl) T.range (de_var (pv 4))) da_nil))) da_nil))))
 (ds_cons (ds_set (i := 6) (ps_set sc_law.nd rfl (.inl rfl) de_int))
 (ds_cons (ds_while (ps_while pown (dt_w (dw_and (dt_lt (de_var (pv 6)) (de_callB (pe_callB call_len (by rfl) T.len boot_len (da_cons (de_var (pv 5)) da_nil)) callD_len)) (dw_and1 (dt_le (de_callB (pe_callB call_len (by rfl) T.len boot_len (da_cons (de_var (pv 5)) da_nil)) callD_len) de_int)))) (ds_cons (ds_for (ps_for pown rfl (di_str (de_var (pv 3))) (dg_name (pg_name (i := 7) sc_law.nd rfl (.inr rfl))) (ds_cons (ds_set (i := 8) (ps_set sc_law.nd rfl (.inl rfl) (de_callB (pe_callTy call_tuple_of (by rfl) T.tuple (by decide +kernel) (da_cons (de_lc rfl sc_law.nd (di_tup (de_ix (de_ix (de_var (pv 5)) (de_var (pv 6))) de_int)) (blkOk_by (own := [("state", 22)]) (by kernel_rfl)) (fun _ _ _ _ _ => (dg_name (pg_name (i := 22) sc_law.nd rfl (.inl rfl)))) (fun _ _ _ _ _ => (de_c c._law_state (fun _ _ _ _ h => h) hr (by decide) (by rfl) (da_cons (de_var (pv 2)) (da_cons (de_var (pv 22)) (da_cons (de_var (pv 7)) da_nil)))))) da_nil)) callD_tuple)))
 (ds_one (ds_if (dt_notInL hu65 (de_var (pv 8)) (de_lc rfl sc_law.nd (di_listb (de_var (pv 5))) (blkOk_by (own := [("word", 15), ("action", 16)]) (by kernel_rfl)) (fun _ _ _ _ _ => (dg_tup (n := 2) rfl (dgs_cons (dg_name (pg_name (i := 15) sc_law.nd rfl (.inl rfl))) (dgs_cons (dg_name (pg_name (i := 16) sc_law.nd rfl (.inl rfl))) dgs_nil)))) (fun _ _ _ _ _ => (de_var (pv 16))))) (ds_one (ds_append (i := 5) (ps_expr (pe_bm PySem.F.plainAttrs_list PySem.F.slot_list_append PySem.F.type_list_append mt_append (pv 5) (pa_cons (de_tup (da_cons (de_add (de_ix (de_ix (de_var (pv 5)) (de_var (pv 6))) de_int) (de_var (pv 7))) (da_cons (de_var (pv 8)) da_nil))) pa_nil))))) ds_nil)))))
 (ds_one (ds_set (i := 6) (ps_set sc_law.nd rfl (.inl rfl) (de_add (de_var (pv 6)) de_int)))))))
 (ds_cons (ds_set (i := 9) (ps_set sc_law.nd rfl (.inl rfl) (de_c c._law_told (fun _ _ _ _ h => h) hr (by decide) (by rfl) (da_cons (de_var (pv 2)) da_nil))))
 (ds_cons (ds_if (dt_gt (de_callB (pe_callB call_len (by rfl) T.len boot_len (da_cons (de_var (pv 5)) da_nil)) callD_len) de_int) (ds_one (ds_ret (ps_ret (de_isN (de_var (pv 9)) de_non)))) ds_nil)
 (ds_cons (ds_if (dt_ne hu64 (de_var (pv 9)) (de_callB (pe_callTy call_tuple_of (by rfl) T.tuple (by decide +kernel) (da_cons (de_var (pv 5)) da_nil)) callD_tuple)) (ds_one (ds_ret (ps_ret de_bl))) ds_nil)
 (ds_cons (ds_set (i := 10) (ps_set sc_law.nd rfl (.inr rfl) (de_lc rfl sc_law.nd (di_listb (de_var (pv 5))) (blkOk_by (own := [("word", 15), ("action", 16)]) (by kernel_rfl)) (fun _ _ _ _ _ => (dg_tup (n := 2) rfl (dgs_cons (dg_name (pg_name (i := 15) sc_law.nd rfl (.inl rfl))) (dgs_cons (dg_name (pg_name (i := 16) sc_law.nd rfl (.inl rfl))) dgs_nil)))) (fun _ _ _ _ _ => (de_var (pv 16))))))
 (ds_cons (ds_if (dt_w (dw_and (dt_lt (de_callB (pe_callB call_len (by rfl) T.len boot_len (da_cons (de_var (pv 10)) da_nil)) callD_len) de_int) (dw_and1 (dt_ne hu64 (de_cX c.product_table tk hr (by decide) (by rfl) (da_cons (de_var (pv 2)) da_nil)) (de_callB (pe_callTy call_tuple_of (by rfl) T.tuple (by decide +kernel) (da_cons (de_lc rfl sc_law.nd (di_listb (de_var (pv 10))) (blkOk_by (own := [("one", 23)]) (by kernel_rfl)) (fun _ _ _ _ _ => (dg_name (pg_name (i := 23) sc_law.nd rfl (.inr rfl)))) (fun _ _ _ _ _ => (de_callB (pe_callTy call_tuple_of (by rfl) T.tuple (by decide +kernel) (da_cons (de_lc rfl sc_law.nd (di_listb (de_var (pv 10))) (blkOk_by (own := [("other", 24)]) (by kernel_rfl)) (fun _ _ _ _ _ => (dg_name (pg_name (i := 24) sc_law.nd rfl (.inl rfl)))) (fun _ _ _ _ _ => (de_mt (pe_bm PySem.F.plainAttrs_list PySem.F.slot_list_index PySem.F.type_list_index (mt_indexD hu65) (de_var (pv 10)) (da_cons (de_c c._law_do (fun _ _ _ _ h => h) hr (by decide) (by rfl) (da_cons (de_var (pv 23)) (da_cons (de_var (pv 24)) da_nil))) da_nil)) mtD_lindex))) da_nil)) callD_tuple))) da_nil)) callD_tuple))))) (ds_one (ds_ret (ps_ret de_bl))) ds_nil)
 (ds_cons (ds_if (dt_ne hu64 (de_cX c.stays tk hr (by decide) (by rfl) (da_cons (de_var (pv 2)) da_nil)) (de_callB (pe_callTy call_tuple_of (by rfl) T.tuple (by decide +kernel) (da_cons (de_lcIf rfl sc_law.nd (di_range1 (st := true) (by rfl) T.range (da_cons (de_callB (pe_callB call_len (by rfl) T.len boot_len (da_cons (de_var (pv 10)) da_nil)) callD_len) da_nil)) (blkOk_by (own := [("k", 21)]) (by kernel_rfl)) (fun _ _ _ _ _ => (dg_name (pg_name (i := 21) sc_law.nd rfl (.inl rfl)))) (fun _ _ _ _ _ => (dt_eq hu64 (de_c c._law_do (fun _ _ _ _ h => h) hr (by decide) (by rfl) (da_cons (de_ix (de_var (pv 10)) (de_var (pv 21))) (da_cons (de_ix (de_var (pv 10)) (de_var (pv 21))) da_nil))) (de_ix (de_var (pv 10)) (de_var (pv 21))))) (fun _ _ _ _ _ => (de_var (pv 21)))) da_nil)) callD_tuple)) (ds_one (ds_ret (ps_ret de_bl))) ds_nil)
 (ds_cons (ds_setLc (i := 11) rfl sc_law.nd rfl rfl (sw_true rfl rfl rfl (by decide +kernel)) (di_listb (de_var (pv 5))) (blkOk_by (own := [("word", 15), ("action", 16)]) (by kernel_rfl)) (fun _ _ _ _ _ => (dg_tup (n := 2) rfl (dgs_cons (dg_name (pg_name (i := 15) sc_law.nd rfl (.inl rfl))) (dgs_cons (dg_name (pg_name (i := 16) sc_law.nd rfl (.inl rfl))) dgs_nil)))) (fun _ _ _ _ _ => (de_tup (da_cons (de_var (pv 15)) (da_cons (de_c c._law_powers (fun _ _ _ _ h => h) hr (by decide) (by rfl) (da_cons (de_var (pv 16)) da_nil)) da_nil)))))
 (ds_cons (ds_setLcIf (i := 12) rfl sc_law.nd rfl rfl (sw_true rfl rfl rfl (by decide +kernel)) (di_listb (de_var (pv 11))) (blkOk_by (own := [("word", 15), ("own", 20)]) (by kernel_rfl)) (fun _ _ _ _ _ => (dg_tup (n := 2) rfl (dgs_cons (dg_name (pg_name (i := 15) sc_law.nd rfl (.inl rfl))) (dgs_cons (dg_name (pg_name (i := 20) sc_law.nd rfl (.inl rfl))) dgs_nil)))) (fun _ _ _ _ _ => (dt_gt (de_ix (de_var (pv 20)) de_int) de_int)) (fun _ _ _ _ _ => (de_tup (da_cons (de_var (pv 15)) (da_cons (de_ix (de_var (pv 20)) de_int) da_nil)))))
 (ds_cons (ds_set (i := 13) (ps_set sc_law.nd rfl (.inl rfl) (de_if (dt_gt (de_callB (pe_callB call_len (by rfl) T.len boot_len (da_cons (de_var (pv 12)) da_nil)) callD_len) de_int) (de_add (de_tup (da_cons de_str da_nil)) (de_ix (de_var (pv 12)) de_int)) (de_tup (da_cons de_str (da_cons (de_callB (pe_callB (cr_max rfl) (by rfl) T.max (by decide +kernel) (da_cons (de_lc rfl sc_law.nd (di_listb (de_var (pv 11))) (blkOk_by (own := [("word", 15), ("own", 20)]) (by kernel_rfl)) (fun _ _ _ _ _ => (dg_tup (n := 2) rfl (dgs_cons (dg_name (pg_name (i := 15) sc_law.nd rfl (.inl rfl))) (dgs_cons (dg_name (pg_name (i := 20) sc_law.nd rfl (.inl rfl))) dgs_nil)))) (fun _ _ _ _ _ => (de_ix (de_var (pv 20)) de_int))) da_nil)) callD_maxL) da_nil))))))
 (ds_cons (ds_if (dt_ne hu64 (de_cX c.counting tk hr (by decide) (by rfl) (da_cons (de_var (pv 2)) da_nil)) (de_var (pv 13))) (ds_one (ds_ret (ps_ret de_bl))) ds_nil)
 (ds_cons (ds_for (ps_for pown rfl (di_range1 (st := true) (by rfl) T.range (da_cons de_int da_nil)) (dg_name (pg_name (i := 14) sc_law.nd rfl (.inl rfl))) (ds_cons (ds_set (i := 15) (ps_set sc_law.nd rfl (.inr rfl) (de_c c._law_pick (fun _ _ _ _ h => h) hr (by decide) (by rfl) (da_cons (de_var (pv 1)) (da_fcons (de_c c._law_all (fun _ _ _ _ h => h) hr (by decide) (by rfl) (da_cons (de_var (pv 3)) (da_cons de_int da_nil))) da_nil)))))
 (ds_cons (ds_set (i := 16) (ps_set sc_law.nd rfl (.inl rfl) (de_callB (pe_callTy call_tuple_of (by rfl) T.tuple (by decide +kernel) (da_cons (de_lc rfl sc_law.nd (di_range1 (st := true) (by rfl) T.range (da_cons (de_var (pv 4)) da_nil)) (blkOk_by (own := [("state", 22)]) (by kernel_rfl)) (fun _ _ _ _ _ => (dg_name (pg_name (i := 22) sc_law.nd rfl (.inl rfl)))) (fun _ _ _ _ _ => (de_c c._law_state (fun _ _ _ _ h => h) hr (by decide) (by rfl) (da_cons (de_var (pv 2)) (da_cons (de_var (pv 22)) (da_cons (de_var (pv 15)) da_nil)))))) da_nil)) callD_tuple)))
 (ds_one (ds_if (dt_w (dw_or (dt_ne hu64 (de_c c.action_of (fun _ _ _ _ h => h) hr (by decide) (by rfl) (da_cons (de_var (pv 2)) (da_cons (de_var (pv 15)) da_nil))) (de_var (pv 16))) (dw_or1 (dt_ne hu64 (de_c c.index_and_period (fun _ _ _ _ h => h) hr (by decide) (by rfl) (da_cons (de_var (pv 2)) (da_cons (de_var (pv 15)) da_nil))) (de_c c._law_powers (fun _ _ _ _ h => h) hr (by decide) (by rfl) (da_cons (de_var (pv 16)) da_nil)))))) (ds_one (ds_ret (ps_ret de_bl))) ds_nil))))))
 (ds_cons (ds_if (dt_eq hu64 (de_ix (de_var (pv 13)) de_int) de_str) (ds_one (ds_for (ps_for pown rfl (di_range1 (st := true) (by rfl) T.range (da_cons de_int da_nil)) (dg_name (pg_name (i := 14) sc_law.nd rfl (.inl rfl))) (ds_cons (ds_asg (ps_asg (de_lc rfl sc_law.nd (di_range1 (st := true) (by rfl) T.range (da_cons de_int da_nil)) (blkOk_by (own := [("k", 21)]) (by kernel_rfl)) (fun _ _ _ _ _ => (dg_name (pg_name (i := 21) sc_law.nd rfl (.inl rfl)))) (fun _ _ _ _ _ => (de_c c._law_pick (fun _ _ _ _ h => h) hr (by decide) (by rfl) (da_cons (de_var (pv 1)) (da_fcons (de_c c._law_all (fun _ _ _ _ h => h) hr (by decide) (by rfl) (da_cons (de_var (pv 3)) (da_cons de_int da_nil))) da_nil))))) (dg_unl (n := 3) rfl (dgs_cons (dg_name (pg_name (i := 17) sc_law.nd rfl (.inr rfl))) (dgs_cons (dg_name (pg_name (i := 18) sc_law.nd rfl (.inr rfl))) (dgs_cons (dg_name (pg_name (i := 19) sc_law.nd rfl (.inr rfl))) dgs_nil))))))
 (ds_one (ds_if (dt_gt (de_lenSetB rfl (by rfl) T.len (by rfl) T.set (de_lc rfl sc_law.nd (di_range2 (st := true) (by rfl) T.range (da_cons (de_ix (de_var (pv 13)) de_int) (da_cons (de_add (de_ix (de_var (pv 13)) de_int) de_int) da_nil))) (blkOk_by (own := [("n", 25)]) (by kernel_rfl)) (fun _ _ _ _ _ => (dg_name (pg_name (i := 25) sc_law.nd rfl (.inl rfl)))) (fun _ _ _ _ _ => (de_c c._law_takes (fun _ _ _ _ h => h) hr (by decide) (by rfl) (da_cons (de_var (pv 2)) (da_cons (de_add (de_add (de_var (pv 17)) (de_mulS (de_var (pv 18)) (de_var (pv 25)))) (de_var (pv 19))) da_nil)))))) de_int) (ds_one (ds_ret (ps_ret de_bl))) ds_nil)))))) ds_nil)
 (ds_one (ds_ret (ps_ret de_bl)))))))))))))))))))))⟩

end K35
set_option Elab.async false
set_option linter.all false
set_option maxRecDepth 100000
set_option maxHeartbeats 1000000
namespace K35
open PySem PySem.Spec L2 DW
variable {K : PySem.W.Frag}
def sg (c : Nat) : D := .str ⟨#[c]⟩
theorem signs_wS (w : Wd) : signs (wS w) = w.map sg := by
  unfold signs wS sg
  rfl
theorem small {n : Nat} (h : n ≤ 1000000) : n ≤ sizeLine := by rw [sizeLine_eq]; omega
theorem occ1 {al : Wd} (h : al = [97] ∨ al = [97, 98] ∨ al = [97, 98, 99]) {c : Nat} (hc : c ∈ al) : Builtin.Str.occurrences (wS al) ⟨#[c]⟩ 0 (wS al).length 1 = [al.idxOf c] := by
  rcases h with rfl | rfl | rfl
  · simp at hc; subst hc; decide +kernel
  · simp at hc; rcases hc with rfl | rfl <;> decide +kernel
  · simp at hc; rcases hc with rfl | rfl | rfl <;> decide +kernel
theorem Mc.Ok.row {m : Mc} (o : m.Ok) {s : Nat} (hs : s < m.n) : m.tb[s]? = some (m.tb.getD s []) := by
  have : s < m.tb.length := hs
  simp [List.getD_eq_getElem?_getD, this]
theorem Mc.Ok.cell {m : Mc} (o : m.Ok) {s c : Nat} (hs : s < m.n) (hc : c ∈ m.al) : (m.tb.getD s [])[m.al.idxOf c]? = some (m.st s c) ∧ m.st s c < m.n := by
  have hs' : s < m.tb.length := hs
  have e : m.tb.getD s [] = m.tb[s] := by simp [List.getD_eq_getElem?_getD, hs']
  have hm : m.tb[s] ∈ m.tb := List.getElem_mem hs'
  have hl : m.al.idxOf c < m.tb[s].length := by rw [o.rows _ hm]; exact List.idxOf_lt_length_of_mem hc
  unfold Mc.st
  rw [e]
  have e2 : m.tb[s].getD (m.al.idxOf c) 0 = m.tb[s][m.al.idxOf c] := by simp [List.getD_eq_getElem?_getD, hl]
  rw [e2]
  exact ⟨List.getElem?_eq_getElem hl, o.ins _ hm _ (List.getElem_mem hl)⟩
theorem Mc.Ok.runs {m : Mc} (o : m.Ok) : ∀ (w : Wd) {s : Nat}, s < m.n → m.In w → m.run s w < m.n
  | [], _, hs, _ => hs
  | c :: w, s, hs, hw => Mc.Ok.runs o w (o.cell hs (hw c List.mem_cons_self)).2 fun d hd => hw d (List.mem_cons_of_mem _ hd)
theorem run_snoc (m : Mc) (s : Nat) (w : Wd) (c : Nat) : m.run s (w ++ [c]) = m.st (m.run s w) c := by unfold Mc.run; rw [List.foldl_append]; rfl
theorem map_at {α β : Type} {f : α → β} {l : List α} {i : Nat} {x : α} (h : l[i]? = some x) : (l.map f)[i]? = some (f x) := by rw [List.getElem?_map, h]; rfl
theorem sem_behind (rs P) (h : S_behind rs P fun _ => False) : (D_behind.1 K) (fnEnds P fun _ => False) (startD n_behind rs) := by
  obtain ⟨n, a, b, rfl, hn, ha, hb, p⟩ := h
  have e : aD (mul a b) = .tuple ([] ++ a.map fun s => iD (b.getD s 0)) := by unfold aD mul; rw [List.map_map]; rfl
  rw [e] at p
  refine ⟨_, rfl, a.map iD, rfl, lc_run iD (fun s => iD (b.getD s 0)) a [] (fun s hs Q q => ?_) ?_ ⟨_, rfl, rfl, p⟩⟩
  · have hl : s < b.length := by rw [hb.1]; exact ha.2 s hs
    exact ⟨_, rfl, _, rfl, _, at_nat (map_at (f := iD) (x := b.getD s 0) (by simp [List.getD_eq_getElem?_getD, hl])), q⟩
  · have := ha.1
    exact small (by rw [List.length_nil]; omega)
/-- one def for the program's state_from and the law's own -/
theorem sem_state_from (rs P) (h : S_state_from rs P fun _ => False) : (D_state_from.1 K) (fnEnds P fun _ => False) (startD n_state_from rs) := by
  obtain ⟨m, s, w, rfl, o, hs, hw, p⟩ := h
  refine ⟨_, rfl, _, rfl, _, rfl, rfl, _, _, rfl, _, _, rfl, _, _, rfl, rfl, ?_⟩
  refine env [some (.im (mD m)), some (.im (iD s)), some (.im (wD w)), some (.im (wD m.al)), some (.im (.tuple (m.tb.map aD))), some (.im (aD m.en)), none] rfl ?_
  refine ⟨_, rfl, wS w, rfl, ?_⟩
  rw [signs_wS]
  refine for_all sg (fun pre δ => ∃ z, δ = [some (.im (mD m)), some (.im (iD (m.run s pre))), some (.im (wD w)), some (.im (wD m.al)), some (.im (.tuple (m.tb.map aD))), some (.im (aD m.en)), z]) w _ ⟨_, rfl⟩ ?_ ?_
  · rintro pre c suf δ N e ⟨z, rfl⟩ hN
    subst e
    have hpre : m.In pre := fun d hd => hw d (List.mem_append_left _ hd)
    have hc : c ∈ m.al := hw c (List.mem_append_right _ List.mem_cons_self)
    have hq := o.runs pre hs hpre
    have e := o.cell hq hc
    refine ⟨_, rfl, _, rfl, _, at_nat (map_at (o.row hq)), _, rfl, ⟨_, rfl⟩, _, rfl, wS m.al, ⟨#[c]⟩, m.al.idxOf c, [], rfl, rfl, occ1 o.alp hc, iD (m.st (m.run s pre) c), ?_, _, rfl, hN _ ⟨some (.im (sg c)), ?_⟩⟩
    · exact at_nat (map_at e.1)
    · rw [run_snoc]; rfl
  · rintro δ ⟨z, rfl⟩
    exact ⟨_, rfl, rfl, p⟩

theorem sem__law_state (rs P) (h : S__law_state rs P fun _ => False) : (D__law_state.1 K) (fnEnds P fun _ => False) (startD n__law_state rs) := by
  obtain ⟨m, s, w, rfl, o, hs, hw, p⟩ := h
  refine ⟨_, rfl, wS w, rfl, ?_⟩
  rw [signs_wS]
  refine for_all sg (fun pre δ => ∃ z, δ = [some (.im (mD m)), some (.im (iD (m.run s pre))), some (.im (wD w)), z]) w _ ⟨_, rfl⟩ ?_ ?_
  · rintro pre c suf δ N e ⟨z, rfl⟩ hN
    subst e
    have hpre : m.In pre := fun d hd => hw d (List.mem_append_left _ hd)
    have hc : c ∈ m.al := hw c (List.mem_append_right _ List.mem_cons_self)
    have hq := o.runs pre hs hpre
    have e := o.cell hq hc
    refine ⟨_, rfl, .tuple (m.tb.map aD), at_nat (i := 1) rfl, _, rfl, _, at_nat (map_at (o.row hq)), _, rfl, ?_⟩
    refine ⟨wD m.al, at_nat (i := 0) rfl, ⟨_, rfl⟩, _, rfl, wS m.al, ⟨#[c]⟩, m.al.idxOf c, [], rfl, rfl, occ1 o.alp hc, iD (m.st (m.run s pre) c), ?_, _, rfl, hN _ ⟨some (.im (sg c)), ?_⟩⟩
    · exact at_nat (map_at e.1)
    · rw [run_snoc]; rfl
  · rintro δ ⟨z, rfl⟩
    exact ⟨_, rfl, rfl, p⟩
theorem range_iD (n : Nat) : intsD 0 n = (List.range n).map iD := intsD0
theorem sem_action_of (rs P) (h : S_action_of rs P fun _ => False) : (D_action_of.1 K) (fnEnds P fun _ => False) (startD n_action_of rs) := by
  obtain ⟨m, w, rfl, o, hw, p⟩ := h
  have e : aD (act m w) = .tuple ([] ++ (List.range m.n).map fun s => iD (m.run s w)) := by unfold aD act; rw [List.map_map]; rfl
  rw [e] at p
  have hn := o.n4
  refine ⟨_, rfl, .tuple (m.tb.map aD), at_nat (i := 1) rfl, (m.n : Int), ?_, by omega, by omega, ?_⟩
  · show [R.im (.int ((m.tb.map aD).length : Nat))] = _
    rw [List.length_map]; rfl
  rw [Int.toNat_natCast, range_iD]
  refine lc_run iD (fun s => iD (m.run s w)) (List.range m.n) [] (fun s hs Q q => ?_) (small (by rw [List.length_range]; simp; omega)) ⟨_, rfl, rfl, p⟩
  exact ⟨_, rfl, _, rfl, _, rfl, rfl, rfl, m, s, w, rfl, o, List.mem_range.mp hs, hw, fun _ => q⟩
end K35
set_option Elab.async false
set_option linter.all false
set_option maxRecDepth 100000
set_option maxHeartbeats 1000000
namespace K35
open PySem PySem.Spec L2 DW
variable {K : PySem.W.Frag}
/-! ### keys -/
def key (a : Ac) : List Key := a.map fun k : Nat => (Sum.inl (k : Int) : Key)
theorem keys_map : ∀ a : Ac, keysOf (a.map iD) = some (key a)
  | [] => rfl
  | x :: a => by
    show (match keyOf (iD x), keysOf (a.map iD) with
      | some k, some ks => some (k :: ks)
      | _, _ => none) = _
    rw [keys_map a]; rfl
theorem key_inj {a b : Ac} (h : key a = key b) : a = b := by
  refine List.map_inj_right (f := fun k : Nat => (Sum.inl (k : Int) : Key)) (fun x y e => ?_) |>.mp h
  have := Sum.inl.inj e
  omega
theorem valD_map {α : Type} (f : α → Ac) (g : α → D) (l : List α) (b : Ac) : valD (l.map fun x => (key (f x), g x)) (key b) = (l.find? fun x => decide (f x = b)).map g := by
  unfold valD
  rw [List.find?_map, Option.map_map]
  have : ((fun kv : List Key × D => decide (kv.1 = key b)) ∘ fun x => (key (f x), g x)) = fun x => decide (f x = b) := by
    funext x
    show decide (key (f x) = key b) = decide (f x = b)
    by_cases h : f x = b
    · subst h; simp
    · rw [decide_eq_false h, decide_eq_false fun z => h (key_inj z)]
  rw [this]
  rfl
theorem putD_new {kvs : List (List Key × D)} {k : List Key} {v : D} (h : valD kvs k = none) : putD kvs k v = kvs ++ [(k, v)] := by
  unfold putD
  rw [if_neg]
  unfold valD at h
  rw [Option.map_eq_none_iff, List.find?_eq_none] at h
  intro z
  obtain ⟨x, hx, e⟩ := List.any_eq_true.mp z
  exact h x hx e
/-- a list of actions, numbered -/
def dix (l : List Ac) : List (List Key × D) := (List.range l.length).map fun i => (key (l.getD i []), iD i)
theorem dix_snoc (l : List Ac) (a : Ac) : dix (l ++ [a]) = dix l ++ [(key a, iD l.length)] := by
  unfold dix
  rw [List.length_append, List.length_singleton, List.range_succ, List.map_append]
  congr 1
  · refine List.map_congr_left fun i hi => ?_
    have hi' : i < l.length := List.mem_range.mp hi
    rw [List.getD_eq_getElem?_getD, List.getD_eq_getElem?_getD, List.getElem?_append_left hi']
  · simp [List.getD_eq_getElem?_getD]
theorem dix_len (l : List Ac) : (dix l).length = l.length := by unfold dix; rw [List.length_map, List.length_range]
theorem val_dix (l : List Ac) (b : Ac) : valD (dix l) (key b) = if b ∈ l then some (iD (l.idxOf b)) else none := by
  have snoc : ∀ (n : Nat) (l : List Ac), l.length = n → valD (dix l) (key b) = if b ∈ l then some (iD (l.idxOf b)) else none := by
    intro n
    induction n with
    | zero => intro l hl; rw [List.eq_nil_of_length_eq_zero hl]; rfl
    | succ n ih =>
      intro l hl
      obtain ⟨u, c, rfl⟩ : ∃ u c, l = u ++ [c] := ⟨l.dropLast, l.getLast (by intro z; subst z; cases hl), (List.dropLast_concat_getLast _).symm⟩
      have hu : u.length = n := by simpa using hl
      have e := ih u hu
      rw [dix_snoc]
      unfold valD at e ⊢
      rw [List.find?_append]
      by_cases hb : b ∈ u
      · rw [if_pos hb] at e
        rw [if_pos (List.mem_append_left _ hb), List.idxOf_append, if_pos hb]
        cases q : (dix u).find? fun kv => decide (kv.1 = key b) with
        | none => rw [q] at e; cases e
        | some x => rw [q] at e; exact e
      · rw [if_neg hb] at e
        cases q : (dix u).find? fun kv => decide (kv.1 = key b) with
        | some x => rw [q] at e; cases e
        | none =>
          by_cases hc : c = b
          · subst hc
            rw [if_pos (by simp), List.idxOf_append, if_neg hb]
            simp [List.find?_cons]
          · have hk : ¬ key c = key b := fun z => hc (key_inj z)
            rw [if_neg (by simp [hb]; exact fun z => hc z.symm)]
            simp [List.find?_cons, hk]
  exact snoc l.length l rfl
theorem idD (a : Ac) : PyData.tuple (intsD 0 (((a.map iD).length : Nat) : Int).toNat) = aD (idA a.length) := by rw [Int.toNat_natCast, List.length_map, range_iD]; rfl
theorem two_small {a b : D} : [a, b].length ≤ sizeLine := small (show (2 : Nat) ≤ 1000000 by decide)
theorem three_small {a b c : D} : [a, b, c].length ≤ sizeLine := small (show (3 : Nat) ≤ 1000000 by decide)
theorem one_small {a : D} : [a].length ≤ sizeLine := small (show (1 : Nat) ≤ 1000000 by decide)
theorem sem_index_of (rs P) (h : S_index_of rs P fun _ => False) : (D_index_of.1 K) (fnEnds P fun _ => False) (startD n_index_of rs) := by
  obtain ⟨n, a, rfl, ha, hn, p⟩ := h
  have hl : a.length = n := ha.1
  have h0 : AcOk n (idA a.length) := by rw [hl]; exact id_ok n
  refine ⟨_, rfl, ((a.map iD).length : Nat), rfl, by omega, by rw [List.length_map]; omega, _, rfl, ?_⟩
  refine env [some (.im (aD a)), some (.im (aD (idA a.length))), none, none] (by rw [← idD a]; rfl) ?_
  refine ⟨_, rfl, (idA a.length).map iD, key (idA a.length), rfl, keys_map _, iD 0, rfl, _, rfl, ?_⟩
  refine ⟨_, rfl, _, rfl, rfl, rfl, n, idA a.length, a, rfl, hn, h0, ha, fun _ => ⟨_, rfl, ?_⟩⟩
  refine ⟨fun mm δ => ∃ k, mm + k = 256 ∧ (Pk a k).Nodup ∧ δ = [some (.im (aD a)), some (.im (aD (idA a.length))), some (.oT (dix (Pk a k))), some (.im (aD (pwr a (k + 1))))], ⟨256, 0, rfl, by unfold Pk; simp, rfl⟩, ?_⟩
  rintro mm δ ⟨k, hk, nd, rfl⟩
  refine ⟨_, rfl, _, rfl, _, .inr ⟨dix (Pk a k), (pwr a (k + 1)).map iD, key (pwr a (k + 1)), rfl, rfl, keys_map _, rfl⟩, _, rfl, ?_⟩
  rw [val_dix]
  by_cases hit : pwr a (k + 1) ∈ Pk a k
  · rw [if_pos hit]
    show (if (!(some (iD ((Pk a k).idxOf (pwr a (k + 1)))) : Option D).isSome) = true then _ else _)
    rw [if_neg (by simp)]
    have t : Turn a k := ⟨nd, hit⟩
    have v := val_dix (Pk a k) (pwr a (k + 1))
    rw [if_pos hit] at v
    have hi := List.idxOf_lt_length_of_mem hit
    rw [Pk_len] at hi
    refine ⟨_, rfl, _, rfl, _, .inr ⟨_, (pwr a (k + 1)).map iD, key (pwr a (k + 1)), rfl, rfl, keys_map _, v.symm⟩, _, rfl, ⟨_, _, rfl, rfl, _, rfl, _, rfl, _, .inr ⟨_, (pwr a (k + 1)).map iD, key (pwr a (k + 1)), rfl, rfl, keys_map _, v.symm⟩, _, _, rfl, rfl, _, rfl, two_small, rfl, ?_⟩⟩
    have e := ixp_turn hn ha t
    rw [e] at p
    rw [dix_len, Pk_len]
    have e2 : ((k + 1 : Nat) : Int) - (((Pk a k).idxOf (pwr a (k + 1)) : Nat) : Int) = ((k + 1 - (Pk a k).idxOf (pwr a (k + 1)) : Nat) : Int) := by omega
    show P (R.im (.tuple [iD ((Pk a k).idxOf (pwr a (k + 1))), .int (((k + 1 : Nat) : Int) - (((Pk a k).idxOf (pwr a (k + 1)) : Nat) : Int))]))
    rw [e2]
    exact p
  · rw [if_neg hit]
    show (if (!(none : Option D).isSome) = true then _ else _)
    rw [if_pos (by simp)]
    have fw : (Pk a k).length ≤ 256 := few hn nd (Pk_ok ha k)
    have nd' : (Pk a (k + 1)).Nodup := by rw [Pk_succ]; exact nodup_snoc nd hit
    have fw' := few hn nd' (Pk_ok ha (k + 1))
    rw [Pk_len] at fw fw'
    refine ⟨_, rfl, _, rfl, _, _, rfl, rfl, _, rfl, _, rfl, _, rfl, _, key (pwr a (k + 1)), rfl, keys_map _, small (by rw [dix_len, Pk_len]; omega), ?_⟩
    refine ⟨_, rfl, _, rfl, rfl, rfl, n, pwr a (k + 1), a, rfl, hn, pwr_ok ha _, ha, fun _ => ⟨_, rfl, mm - 1, by omega, k + 1, by omega, nd', ?_⟩⟩
    have v := val_dix (Pk a k) (pwr a (k + 1))
    rw [if_neg hit] at v
    rw [Pk_succ, dix_snoc, Pk_len, ← putD_new v, dix_len, Pk_len]
    rfl
end K35
set_option Elab.async false
set_option linter.all false
set_option maxRecDepth 100000
set_option maxHeartbeats 1000000
namespace K35
open PySem PySem.Spec L2 DW
variable {K : PySem.W.Frag}
theorem sem_index_and_period (rs P) (h : S_index_and_period rs P fun _ => False) : (D_index_and_period.1 K) (fnEnds P fun _ => False) (startD n_index_and_period rs) := by
  obtain ⟨m, w, rfl, o, hw, p⟩ := h
  exact ⟨_, rfl, _, rfl, rfl, rfl, m, w, rfl, o, hw, fun _ => ⟨rfl, rfl, m.n, act m w, rfl, act_ok o hw, o.n4, fun _ => ⟨rfl, p⟩⟩⟩
theorem sem__law_do (rs P) (h : S__law_do rs P fun _ => False) : (D__law_do.1 K) (fnEnds P fun _ => False) (startD n__law_do rs) := sem_behind (K := K) rs P h
theorem sh_iD (k : Nat) : Sh 0 (iD k) := Sh.int _
theorem sh_aD (a : Ac) : Sh 1 (aD a) := Sh.tup fun d hd => by
  obtain ⟨x, _, rfl⟩ := List.mem_map.mp hd
  exact sh_iD x
theorem sh_acs (l : List Ac) : SeqAt.shaped (.list (l.map aD)) = true := (Sh.lst (k := 1) fun d hd => by
  obtain ⟨x, _, rfl⟩ := List.mem_map.mp hd
  exact sh_aD x).shaped (by decide)
theorem eqv_aD (a b : Ac) : PyData.eqv (aD a) (aD b) = decide (a = b) := by
  unfold aD
  rw [PyData.eqv]
  have e : ∀ l : Ac, l.map iD = (l.map fun k : Nat => (k : Int)).map PyData.int := fun l => by rw [List.map_map]; rfl
  rw [e, e, eqv_ints]
  by_cases h : a = b
  · subst h; simp
  · rw [decide_eq_false h, decide_eq_false fun z => h (List.map_inj_right (f := fun k : Nat => (k : Int)) (fun x y e => by omega) |>.mp z)]
theorem inD_acs (a : Ac) (l : List Ac) : inD (aD a) (l.map aD) = decide (a ∈ l) := by
  unfold inD
  rw [List.any_map]
  by_cases h : a ∈ l
  · rw [decide_eq_true h]
    exact List.any_eq_true.mpr ⟨a, h, by show PyData.eqv (aD a) (aD a) = true; rw [eqv_aD]; simp⟩
  · rw [decide_eq_false h]
    refine List.any_eq_false.mpr fun x hx => ?_
    show ¬ PyData.eqv (aD x) (aD a) = true
    rw [eqv_aD]
    simp only [decide_eq_true_eq]
    exact fun z => h (z ▸ hx)
theorem idxOf_min {a : Ac} : ∀ {l : List Ac} {j : Nat} (h : j < l.length), l[j] = a → l.idxOf a ≤ j
  | x :: l, 0, _, e => by
    have e' : x = a := e
    simp [List.idxOf_cons, e']
  | x :: l, j + 1, h, e => by
    have := idxOf_min (l := l) (j := j) (by simpa using h) (by simpa using e)
    rw [List.idxOf_cons]
    cases x == a
    · show l.idxOf a + 1 ≤ j + 1; omega
    · exact Nat.zero_le _
theorem idx_at {l : List Ac} {a : Ac} (h : a ∈ l) : (l.map aD)[l.idxOf a]? = some (aD a) ∧ ∀ (j : Nat) (z : D), j < l.idxOf a → (l.map aD)[j]? = some z → PyData.eqv z (aD a) = false := by
  have hl := List.idxOf_lt_length_of_mem h
  refine ⟨map_at (by rw [List.getElem?_eq_getElem hl, List.getElem_idxOf]), fun j z hj hz => ?_⟩
  have hj' : j < l.length := by omega
  rw [List.getElem?_map, List.getElem?_eq_getElem hj'] at hz
  cases hz
  rw [eqv_aD]
  refine decide_eq_false fun e => ?_
  have : l.idxOf a ≤ j := by
    exact idxOf_min hj' e
  omega
theorem sem__law_powers (rs P) (h : S__law_powers rs P fun _ => False) : (D__law_powers.1 K) (fnEnds P fun _ => False) (startD n__law_powers rs) := by
  obtain ⟨n, a, rfl, ha, hn, p⟩ := h
  have hl : a.length = n := ha.1
  refine ⟨_, rfl, ((a.map iD).length : Nat), rfl, by omega, by rw [List.length_map]; omega, _, rfl, one_small, _, rfl, ?_⟩
  refine env [some (.im (aD a)), some (.ol ((Pk a 0).map aD)), none] (by show [some (SV.im (aD a)), some (SV.ol [aD (idA a.length)]), none] = _; rw [← idD a]; rfl) ?_
  refine ⟨fun mm δ => ∃ k, mm + k = 256 ∧ (Pk a k).Nodup ∧ δ = [some (.im (aD a)), some (.ol ((Pk a k).map aD)), none], ⟨256, 0, rfl, by unfold Pk; simp, rfl⟩, ?_⟩
  rintro mm δ ⟨k, hk, nd, rfl⟩
  have last : atI ((Pk a k).map aD) (-1) = some (aD (pwr a k)) := atI_last (by rw [List.getLast?_map, Pk_last]; rfl)
  refine ⟨_, rfl, _, _, rfl, last, _, rfl, rfl, rfl, n, pwr a k, a, rfl, hn, pwr_ok ha k, ha, fun _ => ⟨_, rfl, _, _, rfl, rfl, (sh_aD _).shaped (by decide), sh_acs _, _, rfl, ?_⟩⟩
  show (if (!inD (aD (pwr a (k + 1))) ((Pk a k).map aD)) = true then _ else _)
  rw [inD_acs]
  by_cases hit : pwr a (k + 1) ∈ Pk a k
  · rw [if_neg (by simp [hit])]
    have t : Turn a k := ⟨nd, hit⟩
    have hi := List.idxOf_lt_length_of_mem hit
    rw [Pk_len] at hi
    obtain ⟨e1, e2⟩ := idx_at hit
    refine ⟨_, rfl, ⟨_, rfl⟩, _, rfl, _, _, rfl, last, _, rfl, rfl, rfl, n, pwr a k, a, rfl, hn, pwr_ok ha k, ha, fun _ => ⟨_, _, _, (Pk a k).idxOf (pwr a (k + 1)), aD (pwr a (k + 1)), rfl, rfl, rfl, sh_acs _, (sh_aD _).shaped (by decide), e1, eqv_self (sh_aD _), e2, _, rfl, ?_⟩⟩
    refine ⟨_, rfl, _, rfl, _, rfl, _, _, rfl, rfl, _, rfl, two_small, rfl, ?_⟩
    have e := ixp_turn hn ha t
    rw [e] at p
    show P (R.im (.tuple [iD ((Pk a k).idxOf (pwr a (k + 1))), .int ((((Pk a k).map aD).length : Nat) - (((Pk a k).idxOf (pwr a (k + 1)) : Nat) : Int))]))
    rw [List.length_map, Pk_len]
    have e3 : ((k + 1 : Nat) : Int) - (((Pk a k).idxOf (pwr a (k + 1)) : Nat) : Int) = ((k + 1 - (Pk a k).idxOf (pwr a (k + 1)) : Nat) : Int) := by omega
    rw [e3]
    exact p
  · rw [if_pos (by simp [hit])]
    have nd' : (Pk a (k + 1)).Nodup := by rw [Pk_succ]; exact nodup_snoc nd hit
    have fw' := few hn nd' (Pk_ok ha (k + 1))
    rw [Pk_len] at fw'
    refine ⟨_, rfl, _, rfl, _, _, rfl, last, _, rfl, rfl, rfl, n, pwr a k, a, rfl, hn, pwr_ok ha k, ha, fun _ => ⟨_, rfl, ?_, mm - 1, by omega, k + 1, by omega, nd', ?_⟩⟩
    · rw [List.length_map, Pk_len, sizeLine_eq]; omega
    · rw [Pk_succ, List.map_append]; rfl
end K35
set_option Elab.async false
set_option linter.all false
set_option maxRecDepth 100000
set_option maxHeartbeats 1000000
namespace K35
open PySem PySem.Spec L2 DW
variable {K : PySem.W.Frag}
def wdx (o : List En) : List (List Key × D) := o.map fun e => (key e.2, wD e.1)
theorem val_wdx (o : List En) (b : Ac) : valD (wdx o) (key b) = (o.find? fun e => decide (e.2 = b)).map fun e => wD e.1 := valD_map (fun e : En => e.2) (fun e => wD e.1) o b
theorem val_in {o : List En} (nd : (o.map (·.2)).Nodup) {e : En} (he : e ∈ o) : valD (wdx o) (key e.2) = some (wD e.1) := by rw [val_wdx, find_self nd he]; rfl
theorem val_out {o : List En} {b : Ac} (h : ¬ b ∈ o.map (·.2)) : valD (wdx o) (key b) = none := by
  rw [val_wdx, List.find?_eq_none.mpr]
  · rfl
  · intro x hx z
    exact h (List.mem_map.mpr ⟨x, hx, of_decide_eq_true z⟩)
theorem val_some {o : List En} {b : Ac} (h : b ∈ o.map (·.2)) (nd : (o.map (·.2)).Nodup) : (valD (wdx o) (key b)).isSome = true := by
  obtain ⟨e, he, rfl⟩ := List.mem_map.mp h
  rw [val_in nd he]; rfl
theorem sem_actions_of (rs P PX) (h : S_actions_of K rs P PX) : (D_actions_of.1 K) (fnEnds P PX) (startD n_actions_of rs) := by
  obtain ⟨m, rfl, ok, p⟩ := h
  have hn := ok.n4
  have idm : PyData.tuple (intsD 0 (((m.tb.map aD).length : Nat) : Int).toNat) = aD (idA m.n) := by rw [Int.toNat_natCast, List.length_map, range_iD]; rfl
  refine ⟨_, rfl, .tuple (m.tb.map aD), at_nat (i := 1) rfl, ((m.tb.map aD).length : Nat), rfl, by omega, by rw [List.length_map]; have : m.tb.length ≤ 4 := hn; omega, _, rfl, ?_⟩
  refine env [some (.im (mD m)), some (.im (aD (idA m.n))), none, none, none, none, none, none] (by rw [← idm]; rfl) ?_
  refine ⟨_, rfl, (idA m.n).map iD, key (idA m.n), rfl, keys_map _, wD [], rfl, _, rfl, ?_⟩
  refine ⟨_, rfl, _, rfl, one_small, _, rfl, _, rfl, ?_⟩
  have al3 : m.al.length ≤ 3 := by rcases ok.alp with e | e | e <;> rw [e] <;> decide
  refine ⟨fun f δ => ∃ o k z5 z6, f + k = 201 ∧ Inv m o k ∧ k ≤ o.length ∧ o.length ≤ 200 ∧ bfs m f o k = order m ∧ δ = [some (.im (mD m)), some (.im (aD (idA m.n))), some (.oT (wdx o)), some (.ol (o.map fun e => aD e.2)), some (.im (iD k)), z5, z6, none],
    ⟨201, [([], idA m.n)], 0, none, none, rfl, inv0 m, Nat.zero_le _, (show (1 : Nat) ≤ 200 by decide), rfl, rfl⟩, ?_⟩
  rintro f δ ⟨o, k, z5, z6, hf, inv, hk, ho, hb, rfl⟩
  refine ⟨_, rfl, _, rfl, _, _, rfl, rfl, _, rfl, ?_⟩
  show (if decide ((k : Int) < ((o.map fun e => aD e.2).length : Nat)) = true then _ else _)
  rw [List.length_map]
  by_cases hlt : k < o.length
  · rw [if_pos (decide_eq_true (by omega))]
    have he : o[k]? = some o[k] := List.getElem?_eq_getElem hlt
    generalize hee : o[k] = e at he
    have hem : e ∈ o := List.mem_of_getElem? he
    refine ⟨_, rfl, wD m.al, at_nat (i := 0) rfl, wS m.al, rfl, ?_⟩
    rw [signs_wS]
    refine for_all sg (fun pre δ => ∃ z5 z6, δ = [some (.im (mD m)), some (.im (aD (idA m.n))), some (.oT (wdx (pre.foldl (put m e) o))), some (.ol ((pre.foldl (put m e) o).map fun e => aD e.2)), some (.im (iD k)), z5, z6, none]) m.al _ ⟨z5, z6, rfl⟩ ?_ ?_
    · rintro pre c suf δ N ec ⟨y5, y6, rfl⟩ hN
      have hc : c ∈ m.al := by rw [ec]; exact List.mem_append_right _ List.mem_cons_self
      have hpre : ∀ d ∈ pre, d ∈ m.al := fun d hd => by rw [ec]; exact List.mem_append_left _ hd
      have iv := fold_inv ok pre inv hem hk hpre
      have fl := fold_len m e pre o
      have pl : pre.length ≤ 3 := by have := congrArg List.length ec; rw [List.length_append, List.length_cons] at this; omega
      obtain ⟨t, ht⟩ := fold_pre m e pre o
      have hfold : (pre ++ [c]).foldl (put m e) o = put m e (pre.foldl (put m e) o) c := by rw [List.foldl_append]; rfl
      have he' : (pre.foldl (put m e) o)[k]? = some e := by rw [ht, List.getElem?_append_left hlt]; exact he
      generalize hO : pre.foldl (put m e) o = O at iv fl he' hfold ht
      have heO : e ∈ O := List.mem_of_getElem? he'
      have ge := iv.good e heO
      have eo : AcOk m.n e.2 := by rw [ge.2]; exact act_ok ok ge.1
      refine ⟨_, rfl, _, rfl, _, _, rfl, at_nat (map_at he'), _, rfl, _, rfl, rfl, rfl, m, [c], rfl, ok, in_one hc, fun _ => ⟨rfl, rfl, m.n, e.2, act m [c], rfl, hn, eo, act_ok ok (in_one hc), fun _ => ⟨_, rfl, ?_⟩⟩⟩
      refine ⟨_, rfl, _, rfl, _, .inr ⟨wdx O, (mul e.2 (act m [c])).map iD, key (mul e.2 (act m [c])), rfl, rfl, keys_map _, rfl⟩, _, rfl, ?_⟩
      show (if (!(valD (wdx O) (key (mul e.2 (act m [c])))).isSome) = true then _ else _)
      by_cases hin : mul e.2 (act m [c]) ∈ O.map (·.2)
      · rw [val_some hin iv.nd, if_neg (by simp)]
        refine hN _ ⟨some (.im (sg c)), some (.im (aD (mul e.2 (act m [c])))), ?_⟩
        rw [hfold]
        have : put m e O c = O := by unfold put; rw [if_pos (by simpa using hin)]
        rw [this]; rfl
      · have vo := val_out hin
        rw [vo, if_pos (by simp)]
        have le := iv.ln e heO
        have vi := val_in iv.nd heO
        refine ⟨_, rfl, _, rfl, _, rfl, _, rfl, _, _, rfl, at_nat (map_at he'), wD e.1, .inr ⟨wdx O, e.2.map iD, key e.2, rfl, rfl, keys_map _, vi.symm⟩, _, rfl, ?_⟩
        refine ⟨?_, _, rfl, _, rfl, _, rfl, _, key (mul e.2 (act m [c])), rfl, keys_map _, ?_, ?_⟩
        · show (wS e.1).length + 1 ≤ sizeLine
          have : (wS e.1).length = e.1.length := List.size_toArray
          rw [this, sizeLine_eq]; omega
        · show (O.map _).length < sizeLine
          rw [List.length_map, sizeLine_eq]; omega
        refine ⟨_, rfl, _, rfl, _, rfl, ?_, hN _ ⟨some (.im (sg c)), some (.im (aD (mul e.2 (act m [c])))), ?_⟩⟩
        · rw [List.length_map, sizeLine_eq]; omega
        · rw [hfold]
          have : put m e O c = O ++ [(e.1 ++ [c], mul e.2 (act m [c]))] := by unfold put; rw [if_neg (by simpa using hin)]
          have w1 : wdx (O ++ [(e.1 ++ [c], mul e.2 (act m [c]))]) = putD (wdx O) (key (mul e.2 (act m [c]))) (.str (wS e.1 ++ ⟨#[c]⟩)) := by
            rw [putD_new vo]
            unfold wdx
            rw [List.map_append]
            have : wD (e.1 ++ [c]) = .str (wS e.1 ++ ⟨#[c]⟩) := by
              show PyData.str _ = PyData.str _
              congr 1
              show (⟨(e.1 ++ [c]).toArray⟩ : Str) = ⟨e.1.toArray ++ #[c]⟩
              simp
            show _ ++ [(key (mul e.2 (act m [c])), wD (e.1 ++ [c]))] = _
            rw [this]
          rw [this, w1, List.map_append]
          rfl
    · rintro δ ⟨y5, y6, rfl⟩
      have iv := grow_inv ok inv he
      obtain ⟨f', rfl⟩ : ∃ f', f = f' + 1 := ⟨f - 1, by omega⟩
      rw [bfs_turn he ho] at hb
      obtain ⟨t, ht⟩ := fold_pre m e m.al o
      refine ⟨_, rfl, _, _, rfl, rfl, _, rfl, ?_⟩
      refine ⟨_, rfl, _, _, rfl, rfl, _, rfl, ?_⟩
      show (if decide ((200 : Int) < (((m.al.foldl (put m e) o).map fun e => aD e.2).length : Nat)) = true then _ else _)
      rw [List.length_map]
      change bfs m f' (m.al.foldl (put m e) o) (k + 1) = order m at hb
      by_cases big : 200 < (m.al.foldl (put m e) o).length
      · rw [if_pos (decide_eq_true (by omega))]
        rw [bfs_end _ _ _ (.inl big)] at hb
        rw [← hb, if_neg (by omega)] at p
        exact p
      · rw [if_neg (by simp; omega)]
        exact ⟨f', by omega, m.al.foldl (put m e) o, k + 1, y5, y6, by omega, iv, by rw [ht, List.length_append]; omega, by omega, hb, rfl⟩
  · rw [if_neg (by simp; omega)]
    rw [bfs_end _ _ _ (.inr (by omega))] at hb
    subst hb
    rw [if_pos ho] at p
    refine ⟨_, rfl, _, rfl, lc_run (fun e : En => aD e.2) eD (order m) [] (fun e he Q q => ?_) (small (by rw [List.length_nil]; omega)) ⟨_, rfl, rfl, p⟩⟩
    have vi := val_in inv.nd he
    exact ⟨_, rfl, _, rfl, _, .inr ⟨wdx (order m), e.2.map iD, key e.2, rfl, rfl, keys_map _, vi.symm⟩, _, rfl, _, rfl, two_small, q⟩
end K35
set_option Elab.async false
set_option linter.all false
set_option maxRecDepth 100000
set_option maxHeartbeats 1000000
namespace K35
open PySem PySem.Spec L2 DW
variable {K : PySem.W.Frag}
theorem sem__law_told (T : PySem.W.exmOne K (.ref (He.ga K "LargeError")) (.ref (He.ga K "LargeError")) = some true) (rs P) (h : S__law_told rs P fun _ => False) : (D__law_told.1 K) (fnEnds P fun _ => False) (startD n__law_told rs) := by
  obtain ⟨m, rfl, ok, p⟩ := h
  refine ⟨_, rfl, rfl, rfl, m, rfl, ok, ?_⟩
  by_cases hl : (order m).length ≤ 200
  · rw [if_pos hl] at p ⊢
    exact fun _ => ⟨rfl, p⟩
  · rw [if_neg hl] at p ⊢
    exact .inl ⟨T, fun _ => ⟨rfl, p⟩⟩
theorem sem__law_takes (rs P) (h : S__law_takes rs P fun _ => False) : (D__law_takes.1 K) (fnEnds P fun _ => False) (startD n__law_takes rs) := by
  obtain ⟨m, w, rfl, ok, hw, p⟩ := h
  have n1 := ok.n1
  refine ⟨_, rfl, _, rfl, rfl, rfl, m, 0, w, rfl, ok, by omega, hw, fun _ => ⟨_, rfl, aD m.en, at_nat (i := 2) rfl, ((m.run 0 w : Nat) : Int), m.en.map fun k : Nat => (k : Int), rfl, ?_, rfl, ?_⟩⟩
  · show R.im (.tuple _) = _
    rw [List.map_map]; rfl
  · have : decide (((m.run 0 w : Nat) : Int) ∈ m.en.map fun k : Nat => (k : Int)) = decide (m.run 0 w ∈ m.en) := by
      by_cases h : m.run 0 w ∈ m.en
      · rw [decide_eq_true h, decide_eq_true (List.mem_map.mpr ⟨_, h, rfl⟩)]
      · rw [decide_eq_false h, decide_eq_false]
        intro z
        obtain ⟨k, hk, e⟩ := List.mem_map.mp z
        have : k = m.run 0 w := by omega
        exact h (this ▸ hk)
    show P (R.im (.bool (decide _)))
    rw [this]
    exact p
theorem sem__law_pick (rs P) (h : S__law_pick rs P fun _ => False) : (D__law_pick.1 K) (fnEnds P fun _ => False) (startD n__law_pick rs) := by
  obtain ⟨xs, rfl, h0, h1, p⟩ := h
  refine ⟨_, rfl, _, rfl, _, rfl, rfl, rfl, (xs.length : Nat), rfl, by omega, by omega, fun r r0 r1 _ => ?_⟩
  obtain ⟨j, rfl⟩ := Int.eq_ofNat_of_zero_le r0
  have hj : j < xs.length := by omega
  exact ⟨xs, xs[j], rfl, at_nat (List.getElem?_eq_getElem hj), rfl, p _ (List.getElem_mem hj)⟩
theorem sem__law_longer (rs P) (h : S__law_longer rs P fun _ => False) : (D__law_longer.1 K) (fnEnds P fun _ => False) (startD n__law_longer rs) := by
  obtain ⟨al, l, rfl, ha, hl, hw, p⟩ := h
  refine ⟨[], rfl, small (Nat.zero_le _), _, rfl, ?_⟩
  refine ⟨_, rfl, _, rfl, ?_⟩
  refine for_all wD (fun pre δ => ∃ (l2 : List Wd) (z : Option SV), l2.length = pre.length * al.length ∧ (∀ w ∈ l2, ∃ v ∈ pre, ∃ c ∈ al, w = v ++ [c]) ∧ δ = [some (.im (wD al)), some (.im (.list (l.map wD))), some (.ol (l2.map wD)), z, none]) l _ ⟨[], none, by simp, (fun w hw => nomatch hw), rfl⟩ ?_ ?_
  · rintro pre w suf δ N e ⟨l2, z, h2, h3, rfl⟩ hN
    have hwl : w.length ≤ 100 := hw w (by rw [e]; simp)
    have pl : pre.length ≤ 100000 := by have := congrArg List.length e; rw [List.length_append, List.length_cons] at this; omega
    have b1 : l2.length ≤ 300000 := by rw [h2]; exact Nat.le_trans (Nat.mul_le_mul pl ha) (by decide)
    refine ⟨_, rfl, _, rfl, wS al, rfl, ?_⟩
    rw [signs_wS]
    refine lc_run sg (fun c => wD (w ++ [c])) al [] (fun c hc Q q => ?_) (small (by rw [List.length_nil]; omega)) ⟨_, rfl, ?_, hN _ ⟨l2 ++ al.map fun c => w ++ [c], some (.im (wD w)), ?_, ?_, ?_⟩⟩
    · refine ⟨_, rfl, _, rfl, ?_, ?_⟩
      · show (wS w).length + 1 ≤ sizeLine
        have : (wS w).length = w.length := List.size_toArray
        rw [this, sizeLine_eq]; omega
      · have : wD (w ++ [c]) = .str (wS w ++ ⟨#[c]⟩) := by
          show PyData.str _ = PyData.str _
          congr 1
          show (⟨(w ++ [c]).toArray⟩ : Str) = ⟨w.toArray ++ #[c]⟩
          simp
        rw [this] at q
        exact q
    · rw [List.length_map, List.nil_append, List.length_map]
      exact small (by omega)
    · rw [List.length_append, List.length_append, List.length_map, h2, List.length_singleton, Nat.add_mul, Nat.one_mul]
    · intro x hx
      rcases List.mem_append.mp hx with h | h
      · obtain ⟨v, hv, c, hc, rfl⟩ := h3 x h
        exact ⟨v, List.mem_append_left _ hv, c, hc, rfl⟩
      · obtain ⟨c, hc, rfl⟩ := List.mem_map.mp h
        exact ⟨w, by simp, c, hc, rfl⟩
    · rw [List.map_append, List.map_map]; rfl
  · rintro δ ⟨l2, z, h2, h3, rfl⟩
    exact ⟨_, rfl, rfl, p l2 h2 h3⟩
theorem sem__law_all (rs P) (h : S__law_all rs P fun _ => False) : (D__law_all.1 K) (fnEnds P fun _ => False) (startD n__law_all rs) := by
  obtain ⟨al, n, rfl, ha, hn, p⟩ := h
  refine ⟨[wD []], rfl, one_small, _, rfl, [wD []], rfl, one_small, _, rfl, ?_⟩
  refine ⟨_, rfl, (n : Int), rfl, by omega, by omega, ?_⟩
  rw [Int.toNat_natCast, range_iD]
  have pw3 : ∀ {i : Nat}, i ≤ 4 → 3 ^ i ≤ 81 := fun {i} h => Nat.le_trans (Nat.pow_le_pow_right (by decide) h) (by decide)
  refine for_all iD (fun pre δ => ∃ (lv ws : List Wd) (z : Option SV), lv.length ≤ 3 ^ pre.length ∧ 0 < ws.length ∧ ws.length ≤ 1 + 81 * pre.length ∧ (∀ w ∈ lv, w.length = pre.length ∧ ∀ c ∈ w, c ∈ al) ∧ (∀ w ∈ ws, w.length ≤ pre.length ∧ ∀ c ∈ w, c ∈ al) ∧ δ = [some (.im (wD al)), some (.im (iD n)), some (.ol (lv.map wD)), some (.ol (ws.map wD)), z]) (List.range n) _ ⟨[[]], [[]], none, by decide, by decide, by decide, ?_, ?_, rfl⟩ ?_ ?_
  · intro w hw; rw [List.mem_singleton] at hw; subst hw; exact ⟨rfl, fun c hc => nomatch hc⟩
  · intro w hw; rw [List.mem_singleton] at hw; subst hw; exact ⟨Nat.le_refl _, fun c hc => nomatch hc⟩
  · rintro pre i suf δ N e ⟨lv, ws, z, h1, h2, h3, h4, h5, rfl⟩ hN
    have pl : pre.length + 1 ≤ 4 := by have := congrArg List.length e; rw [List.length_append, List.length_cons, List.length_range] at this; omega
    have h81 := pw3 (show pre.length ≤ 4 by omega)
    refine ⟨_, rfl, _, rfl, _, rfl, rfl, rfl, al, lv, rfl, ha, by omega, fun w hw => by have := (h4 w hw).1; omega, fun l2 hl2 hw2 _ => ⟨_, rfl, ?_⟩⟩
    have l2le : l2.length ≤ 3 ^ (pre.length + 1) := by rw [hl2, Nat.pow_succ]; exact Nat.mul_le_mul h1 ha
    have l281 := pw3 pl
    have g2 : ∀ w ∈ l2, w.length = pre.length + 1 ∧ ∀ c ∈ w, c ∈ al := fun w hw => by
      obtain ⟨v, hv, c, hc, rfl⟩ := hw2 w hw
      obtain ⟨a1, a2⟩ := h4 v hv
      refine ⟨by rw [List.length_append, a1]; rfl, fun d hd => ?_⟩
      rcases List.mem_append.mp hd with h | h
      · exact a2 d h
      · rw [List.mem_singleton] at h; subst h; exact hc
    refine ⟨_, rfl, _, rfl, _, _, rfl, rfl, ?_, _, rfl, hN _ ⟨l2, ws ++ l2, some (.im (iD i)), ?_, ?_, ?_, ?_, ?_, ?_⟩⟩
    · rw [List.length_map, List.length_map]; exact small (by omega)
    · rw [List.length_append, List.length_singleton]; exact l2le
    · rw [List.length_append]; omega
    · rw [List.length_append, List.length_append, List.length_singleton]; omega
    · rw [List.length_append, List.length_singleton]; exact g2
    · rw [List.length_append, List.length_singleton]
      intro w hw
      rcases List.mem_append.mp hw with h | h
      · exact ⟨Nat.le_succ_of_le (h5 w h).1, (h5 w h).2⟩
      · exact ⟨Nat.le_of_eq (g2 w h).1, (g2 w h).2⟩
    · rw [List.map_append]; rfl
  · rintro δ ⟨lv, ws, z, h1, h2, h3, h4, h5, rfl⟩
    rw [List.length_range] at h3 h5
    exact ⟨_, rfl, rfl, p ws h2 (by omega) h5⟩
end K35
set_option Elab.async false
set_option linter.all false
set_option maxRecDepth 100000
set_option maxHeartbeats 1000000
namespace K35
open PySem PySem.Spec L2 DW
variable {K : PySem.W.Frag}
section
variable {α : Type} {wg : WG} {wt : WT} {we wk wv : WE'} {δ0 : DEnv}
theorem lc_anyIf {P : List D → Prop} (h g : α → D) : ∀ (l : List α) (acc : List D), (∀ x ∈ l, ∀ Q : Bool → DEnv → Prop, (∀ δ1 b, (∀ S : R → Prop, S (.im (g x)) → we δ1 S fun _ => False) → Q b δ1) → wg (h x) δ0 fun δ1 => wt δ1 (fun b => Q b δ1) fun _ => False) →
    acc.length + l.length ≤ sizeLine → (∀ out : List α, (∀ x ∈ out, x ∈ l) → P (acc ++ out.map g)) → lcGo wg wt we P δ0 (l.map h) acc
  | [], acc, _, _, p => by have := p [] (fun x hx => nomatch hx); rw [List.map_nil, List.append_nil] at this; exact this
  | x :: l, acc, st, hz, p => by
    rw [List.length_cons] at hz
    refine st x List.mem_cons_self (fun b δ1 => if b = true then we δ1 (fun r => ∃ d', r.dat = some d' ∧ acc.length < sizeLine ∧ lcGo wg wt we P δ0 (l.map h) (acc ++ [d'])) (fun _ => False) else lcGo wg wt we P δ0 (l.map h) acc) fun δ1 b hw => ?_
    cases b with
    | true =>
      rw [if_pos rfl]
      refine hw _ ⟨g x, rfl, by omega, ?_⟩
      exact lc_anyIf (P := P) h g l (acc ++ [g x]) (fun y hy => st y (List.mem_cons_of_mem _ hy)) (by rw [List.length_append, List.length_singleton]; omega) fun out ho => by
        have := p (x :: out) fun y hy => (List.mem_cons.mp hy).elim (fun e => e ▸ List.mem_cons_self) fun h => List.mem_cons_of_mem _ (ho y h)
        rw [List.append_assoc]; exact this
    | false =>
      rw [if_neg Bool.false_ne_true]
      exact lc_anyIf (P := P) h g l acc (fun y hy => st y (List.mem_cons_of_mem _ hy)) (by omega) fun out ho => p out fun y hy => List.mem_cons_of_mem _ (ho y hy)
theorem dc_run {P : SV → Prop} (h : α → D) (S : List α → SV) : ∀ (l pre : List α), (∀ pre' x suf, pre ++ l = pre' ++ x :: suf → ∀ Q : SV → Prop, Q (S (pre' ++ [x])) → wg (h x) δ0 fun δ1 => wk δ1 (fun r2 => ∃ kd, r2 = .im kd ∧ wv δ1 (fun r => ∃ v, r.dat = some v ∧ putE (S pre') kd v Q) fun _ => True) fun _ => True) →
    P (S (pre ++ l)) → dcGo wg wtYes wk wv P δ0 (l.map h) (S pre)
  | [], pre, _, p => by rw [List.append_nil] at p; exact p
  | x :: l, pre, st, p => st pre x l rfl (fun s1 => dcGo wg wtYes wk wv P δ0 (l.map h) s1) (dc_run h S l (pre ++ [x]) (fun pre' y suf e => st pre' y suf (by rw [← e, List.append_assoc]; rfl)) (by rw [List.append_assoc]; exact p))
end
theorem all2_nats {α : Type} {n : Nat} {l : List α} {out : List D} (h : All2 (fun _ v => ∃ k, k < n ∧ v = iD k) l out) : ∃ row : List Nat, out = row.map iD ∧ row.length = l.length ∧ ∀ q ∈ row, q < n := by
  induction h with
  | nil => exact ⟨[], rfl, rfl, fun q hq => nomatch hq⟩
  | cons c _ ih =>
    obtain ⟨k, hk, rfl⟩ := c
    obtain ⟨row, rfl, e, q⟩ := ih
    exact ⟨k :: row, rfl, by rw [List.length_cons, List.length_cons, e], fun z hz => (List.mem_cons.mp hz).elim (fun e => e ▸ hk) (q z)⟩
theorem all2_rows {α : Type} {n t : Nat} {l : List α} {out : List D} (h : All2 (fun _ v => ∃ row : List Nat, v = aD row ∧ row.length = t ∧ ∀ q ∈ row, q < n) l out) : ∃ tb : List (List Nat), out = tb.map aD ∧ tb.length = l.length ∧ ∀ r ∈ tb, r.length = t ∧ ∀ q ∈ r, q < n := by
  induction h with
  | nil => exact ⟨[], rfl, rfl, fun q hq => nomatch hq⟩
  | cons c _ ih =>
    obtain ⟨row, rfl, a1, a2⟩ := c
    obtain ⟨tb, rfl, e, q⟩ := ih
    exact ⟨row :: tb, rfl, by rw [List.length_cons, List.length_cons, e], fun z hz => (List.mem_cons.mp hz).elim (fun e => e ▸ ⟨a1, a2⟩) (q z)⟩
theorem sem__law_machine (rs P) (h : S__law_machine rs P fun _ => False) : (D__law_machine.1 K) (fnEnds P fun _ => False) (startD n__law_machine rs) := by
  obtain ⟨rfl, p⟩ := h
  refine ⟨_, rfl, [wD [97, 98], wD [97, 98], wD [97], wD [97, 98, 99]], rfl, small (show (4 : Nat) ≤ 1000000 by decide), _, rfl, rfl, rfl, _, rfl, (show (0 : Nat) < 4 by decide), (show (4 : Nat) < 1000000 by decide), fun d hd _ => ?_⟩
  have hal : ∃ al : Wd, d = wD al ∧ (al = [97] ∨ al = [97, 98] ∨ al = [97, 98, 99]) := by
    rcases List.mem_cons.mp hd with h | hd
    · exact ⟨_, h, .inr (.inl rfl)⟩
    rcases List.mem_cons.mp hd with h | hd
    · exact ⟨_, h, .inr (.inl rfl)⟩
    rcases List.mem_cons.mp hd with h | hd
    · exact ⟨_, h, .inl rfl⟩
    rcases List.mem_cons.mp hd with h | hd
    · exact ⟨_, h, .inr (.inr rfl)⟩
    · cases hd
  obtain ⟨al, rfl, alp⟩ := hal
  have al3 : al.length ≤ 3 := by rcases alp with e | e | e <;> rw [e] <;> decide
  refine ⟨_, rfl, _, rfl, _, rfl, rfl, rfl, 4, rfl, by decide, by decide, fun r r0 r1 _ => ?_⟩
  obtain ⟨j, rfl⟩ := Int.eq_ofNat_of_zero_le r0
  refine ⟨_, rfl, ?_⟩
  generalize hnn : 1 + j = n
  have n1 : 1 ≤ n := by omega
  have n4 : n ≤ 4 := by omega
  refine env [some .drw, some (.im (iD 4)), some (.im (wD al)), some (.im (iD n)), none, none, none] (by rw [← hnn]; rfl) ?_
  refine ⟨_, rfl, (n : Int), rfl, by omega, by omega, ?_⟩
  rw [Int.toNat_natCast, range_iD]
  refine lc_any iD (fun _ v => ∃ row : List Nat, v = aD row ∧ row.length = al.length ∧ ∀ q ∈ row, q < n) (List.range n) [] (fun x hx Q q => ?_) (small (by rw [List.length_range]; simp; omega)) fun out ho => ?_
  · refine ⟨_, rfl, wS al, rfl, ?_⟩
    rw [signs_wS]
    refine lc_any sg (fun _ v => ∃ k, k < n ∧ v = iD k) al [] (fun c hc Q2 q2 => ?_) (small (by simp; omega)) fun out ho => ?_
    · exact ⟨_, rfl, _, rfl, rfl, rfl, (n : Int), rfl, by omega, by omega, fun r r0 r1 _ => q2 _ ⟨r.toNat, by omega, by show PyData.int _ = PyData.int _; rw [Int.toNat_of_nonneg r0]⟩⟩
    · obtain ⟨row, rfl, e1, e2⟩ := all2_nats ho
      exact ⟨_, rfl, q _ ⟨row, rfl, e1, e2⟩⟩
  obtain ⟨tb, rfl, e1, e2⟩ := all2_rows ho
  rw [List.length_range] at e1
  refine ⟨_, rfl, _, rfl, ?_⟩
  refine ⟨_, rfl, _, rfl, _, rfl, (n : Int), rfl, by omega, by omega, ?_⟩
  rw [Int.toNat_natCast, range_iD]
  refine lc_anyIf iD iD (List.range n) [] (fun x hx Q q => ?_) (small (by rw [List.length_range]; simp; omega)) fun out ho => ?_
  · exact ⟨_, rfl, rfl, rfl, 3, rfl, by decide, by decide, fun r r0 r1 _ => ⟨_, _, rfl, rfl, (Sh.int _).shaped (by decide), (Sh.int _).shaped (by decide), _, rfl, q _ _ fun S s => ⟨_, rfl, s⟩⟩⟩
  refine ⟨_, rfl, _, rfl, three_small, rfl, ?_⟩
  exact p ⟨al, tb, out⟩ ⟨by show 1 ≤ tb.length; omega, by show tb.length ≤ 4; omega, fun r hr => (e2 r hr).1, fun r hr q hq => by show q < tb.length; rw [e1]; exact (e2 r hr).2 q hq, alp⟩
theorem enums_aD (l : List Ac) : enums (l.map aD) = (List.range l.length).map fun i => .tuple [iD i, aD (l.getD i [])] := by
  unfold enums
  rw [List.length_map]
  refine List.map_congr_left fun i hi => ?_
  have hi' : i < l.length := List.mem_range.mp hi
  have : (l.map aD).getD i .none = aD (l.getD i []) := by simp [List.getD_eq_getElem?_getD, hi']
  rw [this]; rfl
theorem sem_stays (rs P PX) (h : S_stays K rs P PX) : (D_stays.1 K) (fnEnds P PX) (startD n_stays rs) := by
  obtain ⟨m, rfl, ok, hl, p⟩ := h
  refine ⟨_, rfl, rfl, rfl, m, rfl, ok, ?_⟩
  rw [if_pos hl]
  refine fun _ => ⟨(order m).map eD, rfl, lc_run eD (fun e => aD e.2) (order m) [] (fun e he Q q => ⟨_, rfl, rfl, _, _, rfl, _, _, rfl, rfl, _, rfl, q⟩) (small (by rw [List.length_nil]; omega)) ?_⟩
  refine ⟨_, rfl, _, rfl, _, rfl, _, _, rfl, rfl, ?_⟩
  have e0 : ([] ++ (order m).map fun e => aD e.2) = ((order m).map (·.2)).map aD := by rw [List.map_map]; rfl
  rw [e0, enums_aD, List.length_map]
  generalize hA : (order m).map (·.2) = A
  have aok : ∀ i, i < (order m).length → AcOk m.n (A.getD i []) := fun i hi => by
    rw [← hA]
    have : ((order m).map (·.2)).getD i [] = (order m)[i].2 := by simp [List.getD_eq_getElem?_getD, hi]
    rw [this]
    exact order_ok ok (List.getElem_mem hi)
  refine lc_runIf (fun i : Nat => PyData.tuple [iD i, aD (A.getD i [])]) iD (fun i => decide (mul (A.getD i []) (A.getD i []) = A.getD i [])) (List.range (order m).length) [] (fun i hi Q q => ?_) (small (by rw [List.length_range]; simp; omega)) ⟨_, rfl, rfl, ?_⟩
  · have hi' := aok i (List.mem_range.mp hi)
    refine ⟨_, rfl, rfl, _, _, rfl, _, _, rfl, rfl, _, rfl, _, rfl, rfl, rfl, m.n, _, _, rfl, ok.n4, hi', hi', fun _ => ⟨_, rfl, _, _, rfl, rfl, (sh_aD _).shaped (by decide), (sh_aD _).shaped (by decide), _, rfl, q _ _ ?_ fun S s => ⟨_, rfl, s⟩⟩⟩
    exact eqv_aD _ _
  · subst hA
    exact p
theorem sem_product_table (rs P PX) (h : S_product_table K rs P PX) : (D_product_table.1 K) (fnEnds P PX) (startD n_product_table rs) := by
  obtain ⟨m, rfl, ok, hl, p⟩ := h
  refine ⟨_, rfl, rfl, rfl, m, rfl, ok, ?_⟩
  rw [if_pos hl]
  refine fun _ => ⟨(order m).map eD, rfl, lc_run eD (fun e => aD e.2) (order m) [] (fun e he Q q => ⟨_, rfl, rfl, _, _, rfl, _, _, rfl, rfl, _, rfl, q⟩) (small (by rw [List.length_nil]; omega)) ?_⟩
  have e0 : ([] ++ (order m).map fun e => aD e.2) = ((order m).map (·.2)).map aD := by rw [List.map_map]; rfl
  rw [e0]
  have nd := order_nd ok
  generalize hA : (order m).map (·.2) = A at nd
  have lA : A.length = (order m).length := by rw [← hA, List.length_map]
  refine ⟨_, rfl, A.map aD, rfl, _, rfl, _, _, rfl, rfl, ?_⟩
  rw [enums_aD]
  refine dc_run (fun i : Nat => PyData.tuple [iD i, aD (A.getD i [])]) (fun pre => .oT (dix (A.take pre.length))) (List.range A.length) [] (fun pre i suf e Q q => ?_) ?_
  · have hi : i = pre.length ∧ pre.length < A.length := by
      have h1 := congrArg (fun l => l[pre.length]?) e
      simp at h1
      have h2 := congrArg List.length e
      rw [List.nil_append, List.length_range, List.length_append, List.length_cons] at h2
      rw [List.getElem?_range (by omega)] at h1
      exact ⟨(Option.some.inj h1).symm, by omega⟩
    obtain ⟨rfl, hi⟩ := hi
    have ea : A.take (pre.length + 1) = A.take pre.length ++ [A.getD pre.length []] := by
      rw [List.take_succ, List.getElem?_eq_getElem hi]
      simp [List.getD_eq_getElem?_getD, hi]
    have no : valD (dix (A.take pre.length)) (key (A.getD pre.length [])) = none := by
      rw [val_dix, if_neg]
      intro hm
      have nd2 : (A.take (pre.length + 1)).Nodup := nd.sublist (List.take_sublist _ _)
      rw [ea, List.nodup_append] at nd2
      exact nd2.2.2 _ hm _ (by simp) rfl
    refine ⟨_, rfl, rfl, _, _, rfl, _, _, rfl, rfl, _, rfl, _, rfl, _, rfl, _, rfl, _, key (A.getD pre.length []), rfl, keys_map _, ?_, ?_⟩
    · rw [dix_len, List.length_take, sizeLine_eq]; omega
    · rw [putD_new no]
      have : dix (A.take pre.length) ++ [(key (A.getD pre.length []), iD pre.length)] = dix (A.take (pre ++ [pre.length]).length) := by
        rw [List.length_append, List.length_singleton, ea, dix_snoc, List.length_take, Nat.min_eq_left (by omega)]
      rw [this]
      exact q
  · rw [List.nil_append, List.length_range, List.take_length]
    refine ⟨_, rfl, ?_⟩
    have aok : ∀ a ∈ A, AcOk m.n a := fun a ha => by
      rw [← hA] at ha
      obtain ⟨e, he, rfl⟩ := List.mem_map.mp ha
      exact order_ok ok he
    have cl : ∀ a ∈ A, ∀ b ∈ A, mul a b ∈ A := fun a ha b hb => by
      rw [← hA] at ha hb ⊢
      obtain ⟨x, hx, rfl⟩ := List.mem_map.mp ha
      obtain ⟨y, hy, rfl⟩ := List.mem_map.mp hb
      exact order_mul ok hl hx hy
    refine ⟨_, rfl, A.map aD, rfl, lc_run aD (fun a => PyData.tuple (A.map fun b => iD (A.idxOf (mul a b)))) A [] (fun a ha Q q => ⟨_, rfl, A.map aD, rfl, lc_run aD (fun b => iD (A.idxOf (mul a b))) A [] (fun b hb Q q => ?_) (small (by rw [List.length_nil]; omega)) ⟨_, rfl, q⟩⟩) (small (by rw [List.length_nil]; omega)) ⟨_, rfl, rfl, ?_⟩⟩
    · have v := val_dix A (mul a b)
      rw [if_pos (cl a ha b hb)] at v
      exact ⟨_, rfl, _, rfl, _, rfl, rfl, rfl, m.n, a, b, rfl, ok.n4, aok a ha, aok b hb, fun _ => ⟨_, .inr ⟨dix A, (mul a b).map iD, key (mul a b), rfl, rfl, keys_map _, v.symm⟩, q⟩⟩
    · have : table m = .tuple ([] ++ A.map fun a => PyData.tuple (A.map fun b => iD (A.idxOf (mul a b)))) := by
        subst hA
        unfold table
        rw [List.nil_append, List.map_map]
        congr 1
        refine List.map_congr_left fun x _ => ?_
        show PyData.tuple _ = PyData.tuple _
        rw [List.map_map]; rfl
      rw [← this]
      exact p
end K35
set_option Elab.async false
set_option linter.all false
set_option maxRecDepth 100000
set_option maxHeartbeats 1000000
namespace K35
open PySem PySem.Spec L2 DW
variable {K : PySem.W.Frag}
def big (e : En) : Bool := decide (1 < (ixp e.2).2)
def mx (l : List En) : Nat := l.foldl (fun k e => max k (ixp e.2).1) 0
theorem cntD_some {m : Mc} {pre suf : List En} {e : En} (h : order m = pre ++ e :: suf) (h1 : ∀ x ∈ pre, big x = false) (h2 : big e = true) : cntD m = .tuple [.str "counts", wD e.1, iD (ixp e.2).2] := by
  unfold cntD
  have : ((order m).find? fun e => decide (1 < (ixp e.2).2)) = some e := by
    rw [h, List.find?_append]
    have : (pre.find? fun e => decide (1 < (ixp e.2).2)) = none := List.find?_eq_none.mpr fun x hx => by
      have := h1 x hx
      unfold big at this
      rw [this]; exact Bool.false_ne_true
    rw [this, List.find?_cons]
    unfold big at h2
    rw [h2]; rfl
  rw [this]
theorem cntD_none {m : Mc} (h1 : ∀ x ∈ order m, big x = false) : cntD m = .tuple [.str "free", iD (mx (order m))] := by
  unfold cntD
  have : ((order m).find? fun e => decide (1 < (ixp e.2).2)) = none := List.find?_eq_none.mpr fun x hx => by
    have := h1 x hx
    unfold big at this
    rw [this]; exact Bool.false_ne_true
  rw [this]
  rfl
theorem mx_snoc (l : List En) (e : En) : mx (l ++ [e]) = max (mx l) (ixp e.2).1 := by unfold mx; rw [List.foldl_append]; rfl
theorem sem_counting (rs P PX) (h : S_counting K rs P PX) : (D_counting.1 K) (fnEnds P PX) (startD n_counting rs) := by
  obtain ⟨m, rfl, ok, hl, p⟩ := h
  refine ⟨_, rfl, ?_⟩
  refine ⟨_, rfl, rfl, rfl, m, rfl, ok, ?_⟩
  rw [if_pos hl]
  refine fun _ => ⟨(order m).map eD, rfl, ?_⟩
  refine for_all eD (fun pre δ => ∃ z2 z3 z4 z5, (∀ x ∈ pre, big x = false) ∧ δ = [some (.im (mD m)), some (.im (iD (mx pre))), z2, z3, z4, z5]) (order m) _ ⟨none, none, none, none, (fun x hx => nomatch hx), rfl⟩ ?_ ?_
  · rintro pre e suf δ N ec ⟨z2, z3, z4, z5, hp, rfl⟩ hN
    have he : e ∈ order m := by rw [ec]; exact List.mem_append_right _ List.mem_cons_self
    refine ⟨_, rfl, rfl, _, _, rfl, _, _, rfl, rfl, ?_⟩
    refine ⟨_, rfl, rfl, rfl, m.n, e.2, rfl, order_ok ok he, ok.n4, fun _ => ⟨_, rfl, _, rfl, rfl, _, _, rfl, _, _, rfl, rfl, ?_⟩⟩
    refine ⟨_, rfl, _, _, rfl, rfl, _, rfl, ?_⟩
    show (if decide ((1 : Int) < (((ixp e.2).2 : Nat) : Int)) = true then _ else _)
    have eb : decide ((1 : Int) < (((ixp e.2).2 : Nat) : Int)) = big e := by
      unfold big
      by_cases h : 1 < (ixp e.2).2
      · rw [decide_eq_true h, decide_eq_true (by omega)]
      · rw [decide_eq_false h, decide_eq_false (by omega)]
    rw [eb]
    cases hb : big e with
    | true =>
      rw [if_pos rfl]
      refine ⟨_, rfl, _, rfl, _, rfl, three_small, rfl, ?_⟩
      rw [cntD_some ec hp hb] at p
      exact p
    | false =>
      rw [if_neg Bool.false_ne_true]
      refine ⟨_, rfl, _, rfl, _, _, rfl, _, rfl, hN _ ⟨some (.im (wD e.1)), some (.im (aD e.2)), some (.im (iD (ixp e.2).1)), some (.im (iD (ixp e.2).2)), fun x hx => ?_, ?_⟩⟩
      · rcases List.mem_append.mp hx with h | h
        · exact hp x h
        · rw [List.mem_singleton] at h; subst h; exact hb
      · rw [mx_snoc]
        have : (.int (if (((ixp e.2).1 : Nat) : Int) > ((mx pre : Nat) : Int) then (((ixp e.2).1 : Nat) : Int) else ((mx pre : Nat) : Int)) : D) = iD (max (mx pre) (ixp e.2).1) := by
          show PyData.int _ = PyData.int _
          congr 1
          split <;> omega
        rw [← this]; rfl
  · rintro δ ⟨z2, z3, z4, z5, hp, rfl⟩
    rw [cntD_none hp] at p
    exact ⟨_, rfl, _, rfl, two_small, rfl, p⟩
end K35
set_option Elab.async false
set_option linter.all false
set_option maxRecDepth 100000
set_option maxHeartbeats 1000000
namespace K35
open PySem PySem.Spec L2 DW
variable {K : PySem.W.Frag}
/-! plain: what the law asks besides -/
theorem ixp_small {n : Nat} {a : Ac} (hn : n ≤ 4) (ha : AcOk n a) : (ixp a).1 ≤ 255 ∧ ∃ k, Turn a k ∧ ixp a = ((Pk a k).idxOf (pwr a (k + 1)), k + 1 - (Pk a k).idxOf (pwr a (k + 1))) := by
  obtain ⟨k, _, t⟩ := pw_turn hn ha
  have e := ixp_turn hn ha t
  have h1 := List.idxOf_lt_length_of_mem t.hit
  have h2 := few hn t.nd (Pk_ok ha k)
  rw [Pk_len] at h1 h2
  exact ⟨by rw [e]; show (Pk a k).idxOf _ ≤ 255; omega, k, t, e⟩
theorem pwr_stay {n : Nat} {a : Ac} (hn : n ≤ 4) (ha : AcOk n a) (h : ¬ 1 < (ixp a).2) : ∀ j, (ixp a).1 ≤ j → pwr a j = pwr a (ixp a).1 := by
  obtain ⟨_, k, t, e⟩ := ixp_small hn ha
  have h1 := List.idxOf_lt_length_of_mem t.hit
  rw [Pk_len] at h1
  have h3 : (Pk a k).idxOf (pwr a (k + 1)) = k := by
    rw [e] at h
    have : ¬ 1 < k + 1 - (Pk a k).idxOf (pwr a (k + 1)) := h
    omega
  have e1 : (ixp a).1 = k := by rw [e]; exact h3
  have hl : (Pk a k).idxOf (pwr a (k + 1)) < (Pk a k).length := List.idxOf_lt_length_of_mem t.hit
  have e2 : pwr a (k + 1) = pwr a k := by
    have g : (Pk a k)[(Pk a k).idxOf (pwr a (k + 1))]? = some (pwr a (k + 1)) := by rw [List.getElem?_eq_getElem hl, List.getElem_idxOf]
    rw [h3, Pk_at a (Nat.le_refl k)] at g
    exact (Option.some.inj g).symm
  rw [e1]
  intro j hj
  induction j with
  | zero => have : k = 0 := by omega
            rw [this]
  | succ j ih =>
    by_cases hk : k = j + 1
    · rw [hk]
    · show mul (pwr a j) a = _
      rw [ih (by omega)]
      exact e2
def rep (v : Wd) : Nat → Wd
  | 0 => []
  | n + 1 => rep v n ++ v
theorem rep_in {m : Mc} {v : Wd} (hv : m.In v) : ∀ n, m.In (rep v n)
  | 0 => in_nil
  | n + 1 => in_app (rep_in hv n) hv
theorem rep_len (v : Wd) : ∀ n, (rep v n).length = n * v.length
  | 0 => by simp [rep]
  | n + 1 => by show (rep v n ++ v).length = _; rw [List.length_append, rep_len v n, Nat.succ_mul]
theorem act_rep {m : Mc} (ok : m.Ok) {v : Wd} (hv : m.In v) : ∀ n, act m (rep v n) = pwr (act m v) n
  | 0 => by
    show act m [] = idA (act m v).length
    rw [act_nil, (act_ok ok hv).1]
  | n + 1 => by
    show act m (rep v n ++ v) = mul (pwr (act m v) n) (act m v)
    rw [act_app ok (rep_in hv n), act_rep ok hv n]
theorem repS_rep (v : Wd) (n : Nat) : repS (wS v) (n : Int) = wS (rep v n) := by
  unfold repS wS
  rw [Int.toNat_natCast]
  congr 1
  have : ∀ (n : Nat) (acc : Array Nat), (List.replicate n v.toArray).foldl (· ++ ·) acc = acc ++ (rep v n).toArray := by
    intro n
    induction n with
    | zero => intro acc; simp [rep]
    | succ n ih =>
      intro acc
      rw [List.replicate_succ', List.foldl_append, ih]
      show acc ++ (rep v n).toArray ++ v.toArray = acc ++ (rep v n ++ v).toArray
      rw [Array.append_assoc]
      simp
  rw [this]
  simp
theorem mx_all : ∀ {l : List En} {e : En}, e ∈ l → (ixp e.2).1 ≤ mx l := by
  have g : ∀ (l : List En) (k : Nat), k ≤ l.foldl (fun k e => max k (ixp e.2).1) k ∧ ∀ e ∈ l, (ixp e.2).1 ≤ l.foldl (fun k e => max k (ixp e.2).1) k := by
    intro l
    induction l with
    | nil => intro k; exact ⟨Nat.le_refl _, fun e he => nomatch he⟩
    | cons x l ih =>
      intro k
      obtain ⟨a, b⟩ := ih (max k (ixp x.2).1)
      refine ⟨Nat.le_trans (Nat.le_max_left _ _) a, fun e he => ?_⟩
      rcases List.mem_cons.mp he with rfl | h
      · exact Nat.le_trans (Nat.le_max_right _ _) a
      · exact b e h
  exact fun {l e} he => (g l 0).2 e he
theorem mx_hit : ∀ {l : List En}, 0 < l.length → ∃ e ∈ l, mx l = (ixp e.2).1 := by
  have g : ∀ (l : List En) (k : Nat), l.foldl (fun k e => max k (ixp e.2).1) k = k ∨ ∃ e ∈ l, l.foldl (fun k e => max k (ixp e.2).1) k = (ixp e.2).1 := by
    intro l
    induction l with
    | nil => intro k; exact .inl rfl
    | cons x l ih =>
      intro k
      rcases ih (max k (ixp x.2).1) with h | ⟨e, he, h⟩
      · by_cases hk : k ≤ (ixp x.2).1
        · exact .inr ⟨x, List.mem_cons_self, by rw [List.foldl_cons, h, Nat.max_eq_right hk]⟩
        · exact .inl (by rw [List.foldl_cons, h, Nat.max_eq_left (by omega)])
      · exact .inr ⟨e, List.mem_cons_of_mem _ he, h⟩
  intro l hl
  rcases g l 0 with h | h
  · cases l with
    | nil => cases hl
    | cons x l =>
      refine ⟨x, List.mem_cons_self, ?_⟩
      have := mx_all (l := x :: l) (e := x) List.mem_cons_self
      have h' : mx (x :: l) = 0 := h
      omega
  · exact h
theorem mx_small {m : Mc} (ok : m.Ok) : mx (order m) ≤ 255 := by
  obtain ⟨e, he, h⟩ := mx_hit (order_ne ok)
  rw [h]
  exact (ixp_small ok.n4 (order_ok ok he)).1
/-- a machine that is free: u, n times v, w -/
theorem free_run {m : Mc} (ok : m.Ok) (hl : (order m).length ≤ 200) (fr : ∀ x ∈ order m, big x = false) {u v w : Wd} (hu : m.In u) (hv : m.In v) (t : Nat) : m.run 0 (u ++ rep v (mx (order m) + t) ++ w) = m.run 0 (u ++ rep v (mx (order m)) ++ w) := by
  have n1 := ok.n1
  have key : ∀ s, s < m.n → m.run s (rep v (mx (order m) + t)) = m.run s (rep v (mx (order m))) := by
    intro s hs
    have h1 := act_at (m := m) (rep v (mx (order m) + t)) hs
    have h2 := act_at (m := m) (rep v (mx (order m))) hs
    obtain ⟨e, he, ee⟩ := List.mem_map.mp (order_all ok hl v hv)
    have hb := fr e he
    unfold big at hb
    have hb' : ¬ 1 < (ixp e.2).2 := of_decide_eq_false hb
    have hx := mx_all he
    have ee' : e.2 = act m v := ee
    rw [ee'] at hb' hx
    have st := pwr_stay ok.n4 (act_ok ok hv) hb'
    rw [act_rep ok hv, st _ (by omega)] at h1
    rw [act_rep ok hv, st _ hx] at h2
    exact Option.some.inj (h1.symm.trans h2)
  rw [run_app, run_app, run_app, run_app, key _ (ok.runs' u (by omega) hu)]
theorem abc {m : Mc} (ok : m.Ok) {c : Nat} (h : c ∈ m.al) : c < 1114112 := by
  rcases ok.alp with e | e | e <;> rw [e] at h <;> simp at h <;> omega
theorem sh_wD {w : Wd} (h : ∀ c ∈ w, c < 1114112) : Sh 0 (wD w) := by
  refine ⟨?_, by unfold wD; rw [PyData.depth]; exact Nat.le_refl _⟩
  unfold wD wS
  rw [PyData.canLay0]
  show (w.toArray.all fun c => decide (c < 0x110000)) = true
  rw [Array.all_eq_true]
  intro i hi
  exact decide_eq_true (h _ (by simp))
theorem sh_eD {m : Mc} (ok : m.Ok) {e : En} (he : m.In e.1) : Sh 2 (eD e) := Sh.tup fun d hd => by
  rcases List.mem_cons.mp hd with rfl | hd
  · exact (sh_wD fun c hc => abc ok (he c hc)).mono (by decide)
  rcases List.mem_cons.mp hd with rfl | hd
  · exact sh_aD _
  · cases hd
theorem sh_order {m : Mc} (ok : m.Ok) : Sh 3 (.tuple ((order m).map eD)) := Sh.tup fun d hd => by
  obtain ⟨e, he, rfl⟩ := List.mem_map.mp hd
  exact sh_eD ok (order_good ok e he).1
theorem sh_nats (l : List Nat) : Sh 1 (.tuple (l.map iD)) := sh_aD l
theorem sh_table (m : Mc) : Sh 2 (table m) := Sh.tup fun d hd => by
  obtain ⟨e, he, rfl⟩ := List.mem_map.mp hd
  refine Sh.tup fun d hd => ?_
  obtain ⟨e, he, rfl⟩ := List.mem_map.mp hd
  exact sh_iD _
theorem sh_cnt {m : Mc} (ok : m.Ok) : Sh 1 (cntD m) := by
  unfold cntD
  split
  · rename_i e he
    have hm := List.mem_of_find?_eq_some he
    refine Sh.tup fun d hd => ?_
    rcases List.mem_cons.mp hd with rfl | hd
    · exact ⟨by decide +kernel, by rw [PyData.depth]; exact Nat.le_refl _⟩
    rcases List.mem_cons.mp hd with rfl | hd
    · exact sh_wD fun c hc => abc ok ((order_good ok e hm).1 c hc)
    rcases List.mem_cons.mp hd with rfl | hd
    · exact sh_iD _
    · cases hd
  · refine Sh.tup fun d hd => ?_
    rcases List.mem_cons.mp hd with rfl | hd
    · exact ⟨by decide +kernel, by rw [PyData.depth]; exact Nat.le_refl _⟩
    rcases List.mem_cons.mp hd with rfl | hd
    · exact sh_iD _
    · cases hd
theorem sh_ixD (p : Nat × Nat) : Sh 1 (ixD p) := sh_nats [p.1, p.2]
end K35
set_option Elab.async false
set_option linter.all false
set_option maxRecDepth 100000
set_option maxHeartbeats 2000000
namespace K35
open PySem PySem.Spec L2 DW
variable {K : PySem.W.Frag}
abbrev Lδ (s2 s3 s4 s5 s6 s7 s8 s9 s10 s11 s12 s13 s14 s15 s16 s17 s18 s19 : Option SV) : DEnv := [none, some .drw, s2, s3, s4, s5, s6, s7, s8, s9, s10, s11, s12, s13, s14, s15, s16, s17, s18, s19, none, none, none, none, none, none]
theorem aft {m : Mc} {a : Ac} {c : Nat} (ha : ∀ s ∈ a, s < m.n) : (PyData.tuple ([] ++ a.map fun s => iD (m.run s [c]))) = aD (mul a (act m [c])) := by
  unfold aD mul
  rw [List.map_map, List.nil_append]
  congr 1
  refine List.map_congr_left fun s hs => ?_
  show iD _ = iD ((act m [c]).getD s 0)
  rw [List.getD_eq_getElem?_getD, act_at [c] (ha s hs)]; rfl
/-- the last part: runs of a free machine -/
theorem law_free {m : Mc} (ok : m.Ok) (hl : (order m).length ≤ 200) (fr : ∀ x ∈ order m, big x = false) {z5 z6 z7 z8 z9 z10 z11 z12 : Option SV} {P : R → Prop} {PX : DX → Prop} {N : DEnv → Prop} (hN : ∀ z14 z15 z16 z17 z18 z19, N (Lδ (some (.im (mD m))) (some (.im (wD m.al))) (some (.im (iD m.n))) z5 z6 z7 z8 z9 z10 z11 z12 (some (.im (cntD m))) z14 z15 z16 z17 z18 z19)) (z14 z15 z16 z17 z18 z19 : Option SV) :
    sFor (wiR1 (waCons (wC (PyData.int 6)) waNil)) (wgName 14)
      (sSeq (sAsg (wLc (wiR1 (waCons (wC (PyData.int 3)) waNil)) (wgName 21) wtYes (wCallF 2 S__law_pick (waCons (wV 1) (wfCons (wCallF 2 S__law_all (waCons (wV 3) (waCons (wC (PyData.int 3)) waNil))) waNil))) [21]) (wgUnl 3 (wgsCons (wgName 17) (wgsCons (wgName 18) (wgsCons (wgName 19) wgsNil)))))
        (sIf (wB (wOp kGt (wLenSetB (wLc (wiR2 (waCons (wOp kIx (wV 13) (wC (PyData.int 1))) (waCons (wOp kAdd (wOp kIx (wV 13) (wC (PyData.int 1))) (wC (PyData.int 4))) waNil))) (wgName 25) wtYes (wCallF 2 S__law_takes (waCons (wV 2) (waCons (wOp kAdd (wOp kAdd (wV 17) (wOp kMulS (wV 18) (wV 25))) (wV 19)) waNil))) [25])) (wC (PyData.int 1))))
          (sRet (wC (PyData.bool false))) sNext))
      { fnEnds P PX with nx := N } (Lδ (some (.im (mD m))) (some (.im (wD m.al))) (some (.im (iD m.n))) z5 z6 z7 z8 z9 z10 z11 z12 (some (.im (cntD m))) z14 z15 z16 z17 z18 z19) := by
  have al3 : m.al.length ≤ 3 := by rcases ok.alp with e | e | e <;> rw [e] <;> decide
  have hcn := cntD_none fr
  have hmx := mx_small ok
  refine ⟨6, rfl, by decide, by decide, ?_⟩
  show forGo _ _ _ (intsD 0 6) _
  rw [range_iD]
  refine for_all iD (fun pre δ => ∃ z14 z15 z16 z17 z18 z19, δ = Lδ (some (.im (mD m))) (some (.im (wD m.al))) (some (.im (iD m.n))) z5 z6 z7 z8 z9 z10 z11 z12 (some (.im (cntD m))) z14 z15 z16 z17 z18 z19) (List.range 6) _ ⟨_, _, _, _, _, _, rfl⟩ ?_ ?_
  · rintro pre i suf δ N' e ⟨z14, z15, z16, z17, z18, z19, rfl⟩ hN'
    refine ⟨3, rfl, by decide, by decide, ?_⟩
    show lcGo _ _ _ _ _ (intsD 0 3) _
    rw [range_iD]
    refine lc_any iD (fun _ v => ∃ w : Wd, v = wD w ∧ w.length ≤ 3 ∧ m.In w) (List.range 3) [] (fun x hx Q q => ?_) (small (show (3 : Nat) ≤ 1000000 by decide)) fun out ho => ?_
    · refine ⟨_, rfl, _, rfl, rfl, rfl, m.al, 3, rfl, al3, by decide, fun l l0 l1 hw _ => ⟨_, rfl, rfl, rfl, l.map wD, rfl, by rw [List.length_map]; exact l0, by rw [List.length_map]; omega, fun d hd _ => ?_⟩⟩
      obtain ⟨w, hw', rfl⟩ := List.mem_map.mp hd
      exact q _ ⟨w, rfl, (hw w hw').1, (hw w hw').2⟩
    · obtain ⟨u, v, w, rfl, hu, hv, hw⟩ : ∃ u v w : Wd, out = [wD u, wD v, wD w] ∧ (u.length ≤ 3 ∧ m.In u) ∧ (v.length ≤ 3 ∧ m.In v) ∧ (w.length ≤ 3 ∧ m.In w) := by
        have hr : List.range 3 = [0, 1, 2] := rfl
        rw [hr] at ho
        cases ho with
        | cons a ho =>
        cases ho with
        | cons b ho =>
        cases ho with
        | cons c ho =>
        cases ho
        obtain ⟨u, rfl, hu⟩ := a
        obtain ⟨v, rfl, hv⟩ := b
        obtain ⟨w, rfl, hw⟩ := c
        exact ⟨u, v, w, rfl, hu, hv, hw⟩
      refine ⟨_, rfl, _, rfl, rfl, _, _, rfl, _, _, rfl, _, _, rfl, rfl, ?_⟩
      refine env (Lδ (some (.im (mD m))) (some (.im (wD m.al))) (some (.im (iD m.n))) z5 z6 z7 z8 z9 z10 z11 z12 (some (.im (.tuple [.str "free", iD (mx (order m))]))) (some (.im (iD i))) z15 z16 (some (.im (wD u))) (some (.im (wD v))) (some (.im (wD w)))) (by rw [← hcn]; rfl) ?_
      refine ⟨_, rfl, iD (mx (order m)), at_nat (i := 1) rfl, _, rfl, iD (mx (order m)), at_nat (i := 1) rfl, ((mx (order m) : Nat) : Int), ((mx (order m) : Nat) : Int) + 4, rfl, ⟨by omega, by omega, by omega, by omega⟩, ?_⟩
      have e4 : (((mx (order m) : Nat) : Int) + 4 - ((mx (order m) : Nat) : Int)).toNat = 4 := by omega
      rw [e4, intsD_map]
      refine lc_run (fun t : Nat => PyData.int (((mx (order m) : Nat) : Int) + (t : Nat))) (fun _ => PyData.bool (decide (m.run 0 (u ++ rep v (mx (order m)) ++ w) ∈ m.en))) (List.range 4) [] (fun t ht Q q => ?_) (small (show (4 : Nat) ≤ 1000000 by decide)) ?_
      · have t4 := List.mem_range.mp ht
        have hvl : (wS v).length = v.length := List.size_toArray
        have hul : (wS u).length = u.length := List.size_toArray
        have hwl : (wS w).length = w.length := List.size_toArray
        have hrl : (wS (rep v (mx (order m) + t))).length = (mx (order m) + t) * v.length := by
          have : (wS (rep v (mx (order m) + t))).length = (rep v (mx (order m) + t)).length := List.size_toArray
          rw [this, rep_len]
        have hb : (mx (order m) + t) * v.length ≤ 259 * 3 := Nat.mul_le_mul (by omega) hv.1
        refine ⟨_, rfl, _, rfl, _, rfl, _, rfl, wS v, ((mx (order m) + t : Nat) : Int), rfl, rfl, by omega, by omega, by rw [hvl]; omega, ?_⟩
        rw [repS_rep]
        refine ⟨by rw [hul, hrl]; exact small (by omega), _, rfl, ?_⟩
        have e5 : wS u ++ wS (rep v (mx (order m) + t)) = wS (u ++ rep v (mx (order m) + t)) := by
          show (⟨u.toArray ++ (rep v (mx (order m) + t)).toArray⟩ : Str) = ⟨(u ++ rep v (mx (order m) + t)).toArray⟩
          simp
        rw [e5]
        have hul2 : (wS (u ++ rep v (mx (order m) + t))).length = u.length + (mx (order m) + t) * v.length := by
          have : (wS (u ++ rep v (mx (order m) + t))).length = (u ++ rep v (mx (order m) + t)).length := List.size_toArray
          rw [this, List.length_append, rep_len]
        refine ⟨by rw [hul2, hwl]; exact small (by omega), rfl, rfl, m, u ++ rep v (mx (order m) + t) ++ w, ?_, ok, in_app (in_app hu.2 (rep_in hv.2 _)) hw.2, fun _ => ?_⟩
        · have : wS (u ++ rep v (mx (order m) + t)) ++ wS w = wS (u ++ rep v (mx (order m) + t) ++ w) := by
            show (⟨(u ++ rep v (mx (order m) + t)).toArray ++ w.toArray⟩ : Str) = ⟨(u ++ rep v (mx (order m) + t) ++ w).toArray⟩
            simp
          rw [this]; rfl
        · rw [free_run ok hl fr hu.2 hv.2 t]
          exact q
      · refine ⟨decide (m.run 0 (u ++ rep v (mx (order m)) ++ w) ∈ m.en), 4, rfl, _, _, rfl, rfl, _, rfl, ?_⟩
        refine hN' _ ⟨some (.im (iD i)), z15, z16, some (.im (wD u)), some (.im (wD v)), some (.im (wD w)), ?_⟩
        rw [← hcn]
  · rintro δ ⟨z14, z15, z16, z17, z18, z19, rfl⟩
    exact hN z14 z15 z16 z17 z18 z19
end K35
set_option Elab.async false
set_option linter.all false
set_option maxRecDepth 100000
set_option maxHeartbeats 4000000
namespace K35
open PySem PySem.Spec L2 DW
variable {K : PySem.W.Frag}
def pD (e : En) : D := .tuple [wD e.1, ixD (ixp e.2)]
def wRest4 (K : PySem.W.Frag) : WS := (sSeq (sIf (wB (wOp kNe (wCallF 1 (S_counting K) (waCons (wV 2) waNil)) (wV 13))) (sRet (wC (PyData.bool false))) sNext) (sSeq (sFor (wiR1 (waCons (wC (PyData.int 4)) waNil)) (wgName 14) (sSeq (sSet 15 (wCallF 2 S__law_pick (waCons (wV 1) (wfCons (wCallF 2 S__law_all (waCons (wV 3) (waCons (wC (PyData.int 4)) waNil))) waNil)))) (sSeq (sSet 16 (wCall kTupOf (waCons (wLc (wiR1 (waCons (wV 4) waNil)) (wgName 22) wtYes (wCallF 3 S__law_state (waCons (wV 2) (waCons (wV 22) (waCons (wV 15) waNil)))) [22]) waNil))) (sIf (wtOr (wB (wOp kNe (wCallF 2 S_action_of (waCons (wV 2) (waCons (wV 15) waNil))) (wV 16))) (wB (wOp kNe (wCallF 2 S_index_and_period (waCons (wV 2) (waCons (wV 15) waNil))) (wCallF 1 S__law_powers (waCons (wV 16) waNil))))) (sRet (wC (PyData.bool false))) sNext)))) (sSeq (sIf (wB (wOp kEq (wOp kIx (wV 13) (wC (PyData.int 0))) (wC (PyData.str (Str.ofString "free"))))) (sFor (wiR1 (waCons (wC (PyData.int 6)) waNil)) (wgName 14) (sSeq (sAsg (wLc (wiR1 (waCons (wC (PyData.int 3)) waNil)) (wgName 21) wtYes (wCallF 2 S__law_pick (waCons (wV 1) (wfCons (wCallF 2 S__law_all (waCons (wV 3) (waCons (wC (PyData.int 3)) waNil))) waNil))) [21]) (wgUnl 3 (wgsCons (wgName 17) (wgsCons (wgName 18) (wgsCons (wgName 19) wgsNil))))) (sIf (wB (wOp kGt (wLenSetB (wLc (wiR2 (waCons (wOp kIx (wV 13) (wC (PyData.int 1))) (waCons (wOp kAdd (wOp kIx (wV 13) (wC (PyData.int 1))) (wC (PyData.int 4))) waNil))) (wgName 25) wtYes (wCallF 2 S__law_takes (waCons (wV 2) (waCons (wOp kAdd (wOp kAdd (wV 17) (wOp kMulS (wV 18) (wV 25))) (wV 19)) waNil))) [25])) (wC (PyData.int 1)))) (sRet (wC (PyData.bool false))) sNext))) sNext) (sRet (wC (PyData.bool true))))))
def wRest3 (K : PySem.W.Frag) : WS := (sSeq (sSet 11 (wLc (wiLb (wV 5)) (wgTup 2 (wgsCons (wgName 15) (wgsCons (wgName 16) wgsNil))) wtYes (wTup (waCons (wV 15) (waCons (wCallF 1 S__law_powers (waCons (wV 16) waNil)) waNil))) [15, 16])) (sSeq (sSet 12 (wLc (wiLb (wV 11)) (wgTup 2 (wgsCons (wgName 15) (wgsCons (wgName 20) wgsNil))) (wB (wOp kGt (wOp kIx (wV 20) (wC (PyData.int 1))) (wC (PyData.int 1)))) (wTup (waCons (wV 15) (waCons (wOp kIx (wV 20) (wC (PyData.int 1))) waNil))) [15, 20])) (sSeq (sSet 13 (wIf (wB (wOp kGt (wCall kLen (waCons (wV 12) waNil)) (wC (PyData.int 0)))) (wOp kAdd (wTup (waCons (wC (PyData.str (Str.ofString "counts"))) waNil)) (wOp kIx (wV 12) (wC (PyData.int 0)))) (wTup (waCons (wC (PyData.str (Str.ofString "free"))) (waCons (wCall kMaxL (waCons (wLc (wiLb (wV 11)) (wgTup 2 (wgsCons (wgName 15) (wgsCons (wgName 20) wgsNil))) wtYes (wOp kIx (wV 20) (wC (PyData.int 0))) [15, 20]) waNil)) waNil))))) (wRest4 K))))
def wRest2 (K : PySem.W.Frag) : WS := (sSeq (sSet 10 (wLc (wiLb (wV 5)) (wgTup 2 (wgsCons (wgName 15) (wgsCons (wgName 16) wgsNil))) wtYes (wV 16) [15, 16])) (sSeq (sIf (wtAnd (wB (wOp kLt (wCall kLen (waCons (wV 10) waNil)) (wC (PyData.int 40)))) (wB (wOp kNe (wCallF 1 (S_product_table K) (waCons (wV 2) waNil)) (wCall kTupOf (waCons (wLc (wiLb (wV 10)) (wgName 23) wtYes (wCall kTupOf (waCons (wLc (wiLb (wV 10)) (wgName 24) wtYes (wMt isL kLIndex (wV 10) (waCons (wCallF 2 S__law_do (waCons (wV 23) (waCons (wV 24) waNil))) waNil)) [24]) waNil)) [23]) waNil))))) (sRet (wC (PyData.bool false))) sNext) (sSeq (sIf (wB (wOp kNe (wCallF 1 (S_stays K) (waCons (wV 2) waNil)) (wCall kTupOf (waCons (wLc (wiR1 (waCons (wCall kLen (waCons (wV 10) waNil)) waNil)) (wgName 21) (wB (wOp kEq (wCallF 2 S__law_do (waCons (wOp kIx (wV 10) (wV 21)) (waCons (wOp kIx (wV 10) (wV 21)) waNil))) (wOp kIx (wV 10) (wV 21)))) (wV 21) [21]) waNil)))) (sRet (wC (PyData.bool false))) sNext) (wRest3 K))))
def wRest (K : PySem.W.Frag) : WS := (sSeq (sSet 9 (wCallF 1 S__law_told (waCons (wV 2) waNil))) (sSeq (sIf (wB (wOp kGt (wCall kLen (waCons (wV 5) waNil)) (wC (PyData.int 200)))) (sRet (wOp kIsN (wV 9) (wC PyData.none))) sNext) (sSeq (sIf (wB (wOp kNe (wV 9) (wCall kTupOf (waCons (wV 5) waNil)))) (sRet (wC (PyData.bool false))) sNext) (wRest2 K))))
theorem law_rest4 {m : Mc} (ok : m.Ok) (hl : (order m).length ≤ 200) {P : R → Prop} {PX : DX → Prop} (p : P (.im (.bool true))) (z5 z6 z7 z8 z9 z10 z11 z12 : Option SV) : wRest4 K (fnEnds P PX) (Lδ (some (.im (mD m))) (some (.im (wD m.al))) (some (.im (iD m.n))) z5 z6 z7 z8 z9 z10 z11 z12 (some (.im (cntD m))) none none none none none none) := by
  have hn := ok.n4
  have al3 : m.al.length ≤ 3 := by rcases ok.alp with e | e | e <;> rw [e] <;> decide
  refine ⟨_, rfl, rfl, rfl, m, rfl, ok, hl, fun _ => ⟨_, rfl, _, _, rfl, rfl, (sh_cnt ok).shaped (by decide), (sh_cnt ok).shaped (by decide), _, rfl, ?_⟩⟩
  show (if (!PyData.eqv (cntD m) (cntD m)) = true then _ else _)
  rw [eqv_self (sh_cnt ok), if_neg (by simp)]
  refine ⟨4, rfl, by decide, by decide, ?_⟩
  show forGo _ _ _ (intsD 0 4) _
  rw [range_iD]
  refine for_all iD (fun pre δ => ∃ z14 z15 z16, δ = Lδ (some (.im (mD m))) (some (.im (wD m.al))) (some (.im (iD m.n))) z5 z6 z7 z8 z9 z10 z11 z12 (some (.im (cntD m))) z14 z15 z16 none none none) (List.range 4) _ ⟨none, none, none, rfl⟩ ?_ ?_
  · rintro pre i suf δ N' e ⟨z14, z15, z16, rfl⟩ hN'
    refine ⟨_, rfl, _, rfl, rfl, rfl, m.al, 4, rfl, al3, by decide, fun l l0 l1 hw _ => ⟨_, rfl, rfl, rfl, l.map wD, rfl, by rw [List.length_map]; exact l0, by rw [List.length_map]; omega, fun d hd _ => ?_⟩⟩
    obtain ⟨w, hw', rfl⟩ := List.mem_map.mp hd
    have wi : m.In w := (hw w hw').2
    refine ⟨_, rfl, ?_⟩
    refine ⟨_, rfl, (m.n : Int), rfl, by omega, by omega, ?_⟩
    rw [Int.toNat_natCast, range_iD]
    refine lc_run iD (fun s => iD (m.run s w)) (List.range m.n) [] (fun s hs Q q => ⟨_, rfl, _, rfl, _, rfl, rfl, rfl, m, s, w, rfl, ok, List.mem_range.mp hs, wi, fun _ => q⟩) (small (by rw [List.length_range]; simp; omega)) ⟨_, rfl, _, rfl, ?_⟩
    have ea : PyData.tuple ([] ++ (List.range m.n).map fun s => iD (m.run s w)) = aD (act m w) := by unfold aD act; rw [List.map_map]; rfl
    rw [ea]
    refine ⟨_, rfl, _, rfl, rfl, rfl, m, w, rfl, ok, wi, fun _ => ⟨_, rfl, _, _, rfl, rfl, (sh_aD _).shaped (by decide), (sh_aD _).shaped (by decide), _, rfl, ?_⟩⟩
    show (if (!PyData.eqv (aD (act m w)) (aD (act m w))) = true then _ else _)
    rw [eqv_self (sh_aD _), if_neg (by simp)]
    refine ⟨_, rfl, _, rfl, rfl, rfl, m, w, rfl, ok, wi, fun _ => ⟨_, rfl, rfl, rfl, m.n, act m w, rfl, act_ok ok wi, hn, fun _ => ⟨_, _, rfl, rfl, (sh_ixD _).shaped (by decide), (sh_ixD _).shaped (by decide), _, rfl, ?_⟩⟩⟩
    show (if (!PyData.eqv (ixD (ixp (act m w))) (ixD (ixp (act m w)))) = true then _ else _)
    rw [eqv_self (sh_ixD _), if_neg (by simp)]
    exact hN' _ ⟨some (.im (iD i)), some (.im (wD w)), some (.im (aD (act m w))), rfl⟩
  · rintro δ ⟨z14, z15, z16, rfl⟩
    have shf : Sh 0 (.str "free") := ⟨by decide +kernel, by rw [PyData.depth]; exact Nat.le_refl _⟩
    have shc : Sh 0 (.str "counts") := ⟨by decide +kernel, by rw [PyData.depth]; exact Nat.le_refl _⟩
    cases hf : (order m).filter big with
    | nil =>
      have fr : ∀ x ∈ order m, big x = false := fun x hx => by
        have := List.filter_eq_nil_iff.mp hf x hx
        simpa using this
      have hcn := cntD_none fr
      rw [hcn]
      refine ⟨_, rfl, .str "free", at_nat (i := 0) rfl, _, _, rfl, rfl, shf.shaped (by decide), shf.shaped (by decide), _, rfl, ?_⟩
      show (if PyData.eqv (.str "free") (.str "free") = true then _ else _)
      rw [eqv_self shf, if_pos rfl, ← hcn]
      exact law_free ok hl fr (fun _ _ _ _ _ _ => ⟨rfl, p⟩) _ _ _ _ _ _
    | cons e rest =>
      obtain ⟨pre, suf, h1, h2, h3, h4⟩ := List.filter_eq_cons_iff.mp hf
      have hcn := cntD_some h1 (fun x hx => by simpa using h2 x hx) h3
      rw [hcn]
      refine ⟨_, rfl, .str "counts", at_nat (i := 0) rfl, _, _, rfl, rfl, shc.shaped (by decide), shf.shaped (by decide), _, rfl, ?_⟩
      have ne : PyData.eqv (.str "counts") (.str "free") = false := by decide +kernel
      show (if PyData.eqv (.str "counts") (.str "free") = true then _ else _)
      rw [ne, if_neg Bool.false_ne_true]
      exact ⟨rfl, p⟩
theorem law_rest3 {m : Mc} (ok : m.Ok) (hl : (order m).length ≤ 200) {P : R → Prop} {PX : DX → Prop} (p : P (.im (.bool true))) (z6 z7 z8 z9 z10 : Option SV) : wRest3 K (fnEnds P PX) (Lδ (some (.im (mD m))) (some (.im (wD m.al))) (some (.im (iD m.n))) (some (.ol ((order m).map eD))) z6 z7 z8 z9 z10 none none none none none none none none none) := by
  have hn := ok.n4
  have lo : ([] : List D).length + (order m).length ≤ sizeLine := small (by rw [List.length_nil]; omega)
  refine ⟨_, rfl, _, rfl, lc_run eD pD (order m) [] (fun e he Q q => ⟨_, rfl, rfl, _, _, rfl, _, _, rfl, rfl, _, rfl, _, rfl, rfl, rfl, m.n, e.2, rfl, order_ok ok he, hn, fun _ => ⟨_, rfl, two_small, q⟩⟩) lo ⟨_, rfl, ?_⟩⟩
  rw [List.nil_append]
  have eb : ∀ e : En, decide ((1 : Int) < (((ixp e.2).2 : Nat) : Int)) = big e := fun e => by
    unfold big
    by_cases h : 1 < (ixp e.2).2
    · rw [decide_eq_true h, decide_eq_true (by omega)]
    · rw [decide_eq_false h, decide_eq_false (by omega)]
  refine ⟨_, rfl, _, rfl, lc_runIf pD (fun e => .tuple [wD e.1, iD (ixp e.2).2]) big (order m) [] (fun e he Q q => ⟨_, rfl, rfl, _, _, rfl, _, _, rfl, rfl, _, rfl, iD (ixp e.2).2, at_nat (i := 1) rfl, _, _, rfl, rfl, _, rfl, q _ _ (eb e) fun S s => ⟨_, rfl, _, rfl, iD (ixp e.2).2, at_nat (i := 1) rfl, _, rfl, two_small, s⟩⟩) lo ⟨_, rfl, ?_⟩⟩
  rw [List.nil_append]
  refine ⟨_, rfl, _, _, rfl, rfl, _, rfl, ?_⟩
  cases hf : (order m).filter big with
  | nil =>
    have fr : ∀ x ∈ order m, big x = false := fun x hx => by
      have := List.filter_eq_nil_iff.mp hf x hx
      simpa using this
    show (if decide ((0 : Int) < ((0 : Nat) : Int)) = true then _ else _)
    rw [if_neg (by decide)]
    refine ⟨_, rfl, _, rfl, lc_run pD (fun e => iD (ixp e.2).1) (order m) [] (fun e he Q q => ⟨_, rfl, rfl, _, _, rfl, _, _, rfl, rfl, _, rfl, iD (ixp e.2).1, at_nat (i := 0) rfl, q⟩) lo ⟨_, (order m).map fun e => (((ixp e.2).1 : Nat) : Int), rfl, ?_, ?_, fun mm hm hmax => ⟨_, rfl, two_small, _, rfl, ?_⟩⟩⟩
    · show some ([] ++ _) = _
      rw [List.nil_append, List.map_map]; rfl
    · rw [List.length_map]; exact order_ne ok
    · have e1 : mm = ((mx (order m) : Nat) : Int) := by
        obtain ⟨e, he, rfl⟩ := List.mem_map.mp hm
        obtain ⟨e', he', h'⟩ := mx_hit (order_ne ok)
        have h1 := mx_all he
        have h2 := hmax _ (List.mem_map.mpr ⟨e', he', rfl⟩)
        omega
      subst e1
      have hcn := cntD_none fr
      have := law_rest4 (K := K) ok hl (PX := PX) p (some (.ol ((order m).map eD))) z6 z7 z8 z9 z10 (some (.ol ((order m).map pD))) (some (.ol [])) 
      rw [hcn] at this
      exact this
  | cons e rest =>
    obtain ⟨pre, suf, h1, h2, h3, h4⟩ := List.filter_eq_cons_iff.mp hf
    have hcn := cntD_some h1 (fun x hx => by simpa using h2 x hx) h3
    rw [List.map_cons]
    show (if decide ((0 : Int) < ((_ + 1 : Nat) : Int)) = true then _ else _)
    rw [if_pos (decide_eq_true (by omega))]
    refine ⟨_, rfl, one_small, _, rfl, _, _, rfl, at_nat (i := 0) rfl, three_small (a := .str "counts") (b := wD e.1) (c := iD (ixp e.2).2), _, rfl, ?_⟩
    have := law_rest4 (K := K) ok hl (PX := PX) p (some (.ol ((order m).map eD))) z6 z7 z8 z9 z10 (some (.ol ((order m).map pD))) (some (.ol ((PyData.tuple [wD e.1, iD (ixp e.2).2]) :: rest.map fun e => .tuple [wD e.1, iD (ixp e.2).2])))
    rw [hcn] at this
    exact this
theorem sh_stays (m : Mc) : Sh 1 (staysD m) := sh_nats _
theorem law_rest2 {m : Mc} (ok : m.Ok) (hl : (order m).length ≤ 200) {P : R → Prop} {PX : DX → Prop} (p : P (.im (.bool true))) (z6 z7 z8 z9 : Option SV) : wRest2 K (fnEnds P PX) (Lδ (some (.im (mD m))) (some (.im (wD m.al))) (some (.im (iD m.n))) (some (.ol ((order m).map eD))) z6 z7 z8 z9 none none none none none none none none none none) := by
  have hn := ok.n4
  have al3 : m.al.length ≤ 3 := by rcases ok.alp with e | e | e <;> rw [e] <;> decide
  have lz : ∀ {α : Type} {l : List α}, l.length ≤ 200 → ([] : List D).length + l.length ≤ sizeLine := fun h => small (by rw [List.length_nil]; omega)
  have lo : ([] : List D).length + (order m).length ≤ sizeLine := lz hl
  -- actions
  refine ⟨_, rfl, _, rfl, lc_run eD (fun e => aD e.2) (order m) [] (fun e he Q q => ⟨_, rfl, rfl, _, _, rfl, _, _, rfl, rfl, _, rfl, q⟩) lo ⟨_, rfl, ?_⟩⟩
  have e0 : ([] ++ (order m).map fun e => aD e.2) = ((order m).map (·.2)).map aD := by rw [List.map_map]; rfl
  rw [e0]
  have hA : (order m).map (·.2) = (order m).map (·.2) := rfl
  generalize hA' : (order m).map (·.2) = A at hA
  have lA : A.length = (order m).length := by rw [← hA', List.length_map]
  have lA2 : ([] : List D).length + A.length ≤ sizeLine := lz (by omega)
  have aok : ∀ a ∈ A, AcOk m.n a := fun a ha => by
    rw [← hA'] at ha
    obtain ⟨e, he, rfl⟩ := List.mem_map.mp ha
    exact order_ok ok he
  have cl : ∀ a ∈ A, ∀ b ∈ A, mul a b ∈ A := fun a ha b hb => by
    rw [← hA'] at ha hb ⊢
    obtain ⟨x, hx, rfl⟩ := List.mem_map.mp ha
    obtain ⟨y, hy, rfl⟩ := List.mem_map.mp hb
    exact order_mul ok hl hx hy
  -- behind the table
  have tab : sSeq (sIf (wB (wOp kNe (wCallF 1 (S_stays K) (waCons (wV 2) waNil)) (wCall kTupOf (waCons (wLc (wiR1 (waCons (wCall kLen (waCons (wV 10) waNil)) waNil)) (wgName 21) (wB (wOp kEq (wCallF 2 S__law_do (waCons (wOp kIx (wV 10) (wV 21)) (waCons (wOp kIx (wV 10) (wV 21)) waNil))) (wOp kIx (wV 10) (wV 21)))) (wV 21) [21]) waNil)))) (sRet (wC (PyData.bool false))) sNext) (wRest3 K) (fnEnds P PX)
      (Lδ (some (.im (mD m))) (some (.im (wD m.al))) (some (.im (iD m.n))) (some (.ol ((order m).map eD))) z6 z7 z8 z9 (some (.ol (A.map aD))) none none none none none none none none none) := by
    refine ⟨_, rfl, rfl, rfl, m, rfl, ok, hl, fun _ => ?_⟩
    refine ⟨_, rfl, ((A.map aD).length : Nat), rfl, by omega, by rw [List.length_map]; omega, ?_⟩
    rw [Int.toNat_natCast, List.length_map, range_iD]
    refine lc_runIf iD iD (fun i => decide (mul (A.getD i []) (A.getD i []) = A.getD i [])) (List.range A.length) [] (fun i hi Q q => ?_) (by rw [List.length_range]; exact lA2) ?_
    · have hi' : i < A.length := List.mem_range.mp hi
      have g : A[i]? = some (A.getD i []) := by simp [List.getD_eq_getElem?_getD, hi']
      have ao := aok _ (List.mem_of_getElem? g)
      refine ⟨_, rfl, _, rfl, _, _, rfl, at_nat (map_at g), _, rfl, _, rfl, _, _, rfl, at_nat (map_at g), rfl, rfl, m.n, _, _, rfl, hn, ao, ao, fun _ => ⟨_, rfl, _, rfl, _, _, rfl, at_nat (map_at g), _, _, rfl, rfl, (sh_aD _).shaped (by decide), (sh_aD _).shaped (by decide), _, rfl, q _ _ ?_ fun S s => ⟨_, rfl, s⟩⟩⟩
      exact eqv_aD _ _
    · have e1 : PyData.tuple ([] ++ ((List.range A.length).filter fun i => decide (mul (A.getD i []) (A.getD i []) = A.getD i [])).map iD) = staysD m := by
        unfold staysD
        rw [hA', ← lA]; rfl
      refine ⟨_, rfl, ?_⟩
      rw [e1]
      refine ⟨_, _, rfl, rfl, (sh_stays m).shaped (by decide), (sh_stays m).shaped (by decide), _, rfl, ?_⟩
      show (if (!PyData.eqv (staysD m) (staysD m)) = true then _ else _)
      rw [eqv_self (sh_stays m), if_neg (by simp)]
      exact law_rest3 ok hl p _ _ _ _ _
  refine ⟨_, rfl, _, _, rfl, rfl, _, rfl, ?_⟩
  show (if decide ((((A.map aD).length : Nat) : Int) < 40) = true then _ else _)
  by_cases h40 : (((A.map aD).length : Nat) : Int) < 40
  · rw [if_pos (decide_eq_true h40)]
    refine ⟨_, rfl, rfl, rfl, m, rfl, ok, hl, fun _ => ?_⟩
    refine ⟨_, rfl, _, rfl, lc_run aD (fun a => PyData.tuple (A.map fun b => iD (A.idxOf (mul a b)))) A [] (fun a ha Q q => ⟨_, rfl, _, rfl, lc_run aD (fun b => iD (A.idxOf (mul a b))) A [] (fun b hb Q q => ?_) lA2 ⟨_, rfl, q⟩⟩) lA2 ?_⟩
    · have hm := cl a ha b hb
      obtain ⟨i1, i2⟩ := idx_at hm
      exact ⟨_, rfl, ⟨_, rfl⟩, _, rfl, _, rfl, rfl, rfl, m.n, a, b, rfl, hn, aok a ha, aok b hb, fun _ => ⟨_, _, _, A.idxOf (mul a b), aD (mul a b), rfl, rfl, rfl, sh_acs _, (sh_aD _).shaped (by decide), i1, eqv_self (sh_aD _), i2, q⟩⟩
    · have e1 : PyData.tuple ([] ++ A.map fun a => PyData.tuple (A.map fun b => iD (A.idxOf (mul a b)))) = table m := by
        subst hA'
        unfold table
        rw [List.nil_append, List.map_map]
        congr 1
        refine List.map_congr_left fun x _ => ?_
        show PyData.tuple _ = PyData.tuple _
        rw [List.map_map]; rfl
      refine ⟨_, rfl, ?_⟩
      rw [e1]
      refine ⟨_, _, rfl, rfl, (sh_table m).shaped (by decide), (sh_table m).shaped (by decide), _, rfl, ?_⟩
      show (if (!PyData.eqv (table m) (table m)) = true then _ else _)
      rw [eqv_self (sh_table m), if_neg (by simp)]
      exact tab
  · rw [if_neg (by simpa using h40)]
    exact tab
theorem law_rest {m : Mc} (ok : m.Ok) {P : R → Prop} {PX : DX → Prop} (p : P (.im (.bool true))) (z6 z7 z8 : Option SV) : wRest K (fnEnds P PX) (Lδ (some (.im (mD m))) (some (.im (wD m.al))) (some (.im (iD m.n))) (some (.ol ((order m).map eD))) z6 z7 z8 none none none none none none none none none none none) := by
  refine ⟨_, rfl, rfl, rfl, m, rfl, ok, ?_⟩
  by_cases big200 : 200 < (order m).length
  · rw [if_neg (by omega)]
    refine fun _ => ⟨_, rfl, _, rfl, _, _, rfl, rfl, _, rfl, ?_⟩
    show (if decide ((200 : Int) < (((order m).map eD).length : Nat)) = true then _ else _)
    rw [List.length_map, if_pos (decide_eq_true (by omega))]
    exact ⟨_, rfl, _, rfl, rfl, rfl, p⟩
  have hl : (order m).length ≤ 200 := by omega
  rw [if_pos hl]
  refine fun _ => ⟨_, rfl, _, rfl, _, _, rfl, rfl, _, rfl, ?_⟩
  show (if decide ((200 : Int) < (((order m).map eD).length : Nat)) = true then _ else _)
  rw [List.length_map, if_neg (by simp; omega)]
  have so := (sh_order ok).shaped (by decide)
  refine ⟨_, rfl, _, rfl, _, rfl, _, _, rfl, rfl, so, so, _, rfl, ?_⟩
  show (if (!PyData.eqv (.tuple ((order m).map eD)) (.tuple ((order m).map eD))) = true then _ else _)
  rw [eqv_self (sh_order ok), if_neg (by simp)]
  exact law_rest2 ok hl p _ _ _ _
theorem sem_law (P : R → Prop) (PX : DX → Prop) (p : P (.im (.bool true))) : (D_law.1 K) (fnEnds P PX) (Lδ none none none none none none none none none none none none none none none none none none) := by
  refine ⟨_, rfl, rfl, rfl, rfl, fun m ok _ => ⟨_, rfl, ?_⟩⟩
  have hn := ok.n4
  have al3 : m.al.length ≤ 3 := by rcases ok.alp with e | e | e <;> rw [e] <;> decide
  refine ⟨_, rfl, wD m.al, at_nat (i := 0) rfl, _, rfl, ?_⟩
  refine ⟨_, rfl, .tuple (m.tb.map aD), at_nat (i := 1) rfl, _, rfl, ?_⟩
  refine env (Lδ (some (.im (mD m))) (some (.im (wD m.al))) (some (.im (iD m.n))) none none none none none none none none none none none none none none none) (by show _ = Lδ _ _ (some (SV.im (PyData.int (((m.tb.map aD).length : Nat) : Int)))) _ _ _ _ _ _ _ _ _ _ _ _ _ _ _; rw [List.length_map]; rfl) ?_
  refine ⟨_, rfl, (m.n : Int), rfl, by omega, by omega, _, rfl, two_small, _, rfl, one_small, _, rfl, ?_⟩
  rw [Int.toNat_natCast, range_iD]
  refine ⟨_, rfl, ?_⟩
  refine ⟨fun f δ => ∃ o k z7 z8, f + k = 201 ∧ Inv m o k ∧ k ≤ o.length ∧ o.length ≤ 203 ∧ bfs m f o k = order m ∧ δ = Lδ (some (.im (mD m))) (some (.im (wD m.al))) (some (.im (iD m.n))) (some (.ol (o.map eD))) (some (.im (iD k))) z7 z8 none none none none none none none none none none none,
    ⟨201, [([], idA m.n)], 0, none, none, rfl, inv0 m, Nat.zero_le _, (show (1 : Nat) ≤ 203 by decide), rfl, rfl⟩, ?_⟩
  rintro f δ ⟨o, k, z7, z8, hf, inv, hk, ho3, hb, rfl⟩
  refine ⟨_, rfl, _, rfl, _, _, rfl, rfl, _, rfl, ?_⟩
  show (if decide ((k : Int) < ((o.map eD).length : Nat)) = true then _ else _)
  rw [List.length_map]
  -- behind the loop
  have after : (200 < o.length ∨ o.length ≤ k) → wRest K (fnEnds P PX) (Lδ (some (.im (mD m))) (some (.im (wD m.al))) (some (.im (iD m.n))) (some (.ol (o.map eD))) (some (.im (iD k))) z7 z8 none none none none none none none none none none none) := fun hend => by
    rw [bfs_end _ _ _ hend] at hb
    subst hb
    exact law_rest ok p _ _ _
  by_cases hlt : k < o.length
  · rw [if_pos (decide_eq_true (by omega))]
    refine ⟨_, rfl, _, _, rfl, rfl, _, rfl, ?_⟩
    show (if decide ((((o.map eD).length : Nat) : Int) ≤ 200) = true then _ else _)
    rw [List.length_map]
    by_cases ho : o.length ≤ 200
    · rw [if_pos (decide_eq_true (by omega))]
      have he : o[k]? = some o[k] := List.getElem?_eq_getElem hlt
      generalize hee : o[k] = e at he
      have hem : e ∈ o := List.mem_of_getElem? he
      refine ⟨_, rfl, wS m.al, rfl, ?_⟩
      rw [signs_wS]
      refine for_all sg (fun pre δ => ∃ z7 z8, δ = Lδ (some (.im (mD m))) (some (.im (wD m.al))) (some (.im (iD m.n))) (some (.ol ((pre.foldl (put m e) o).map eD))) (some (.im (iD k))) z7 z8 none none none none none none none none none none none) m.al _ ⟨z7, z8, rfl⟩ ?_ ?_
      · rintro pre c suf δ N ec ⟨y7, y8, rfl⟩ hN
        have hc : c ∈ m.al := by rw [ec]; exact List.mem_append_right _ List.mem_cons_self
        have hpre : ∀ d ∈ pre, d ∈ m.al := fun d hd => by rw [ec]; exact List.mem_append_left _ hd
        have iv := fold_inv ok pre inv hem hk hpre
        have fl := fold_len m e pre o
        have pl : pre.length ≤ 3 := by have := congrArg List.length ec; rw [List.length_append, List.length_cons] at this; omega
        obtain ⟨t, ht⟩ := fold_pre m e pre o
        have hfold : (pre ++ [c]).foldl (put m e) o = put m e (pre.foldl (put m e) o) c := by rw [List.foldl_append]; rfl
        have he' : (pre.foldl (put m e) o)[k]? = some e := by rw [ht, List.getElem?_append_left hlt]; exact he
        generalize hO : pre.foldl (put m e) o = O at iv fl he' hfold ht
        have heO : e ∈ O := List.mem_of_getElem? he'
        have ge := iv.good e heO
        have eo : AcOk m.n e.2 := by rw [ge.2]; exact act_ok ok ge.1
        refine ⟨_, rfl, _, rfl, _, _, rfl, at_nat (map_at he'), aD e.2, at_nat (i := 1) rfl, e.2.map iD, rfl, lc_run iD (fun s => iD (m.run s [c])) e.2 [] (fun s hs Q q => ⟨_, rfl, _, rfl, _, rfl, rfl, rfl, m, s, [c], rfl, ok, eo.2 s hs, in_one hc, fun _ => q⟩) (small (by rw [List.length_nil, eo.1]; omega)) ⟨_, rfl, _, rfl, ?_⟩⟩
        rw [aft eo.2]
        refine ⟨_, rfl, _, rfl, _, rfl, lc_run eD (fun e => aD e.2) O [] (fun e he Q q => ⟨_, rfl, rfl, _, _, rfl, _, _, rfl, rfl, _, rfl, q⟩) (small (by rw [List.length_nil]; omega)) ?_⟩
        have e0 : ([] ++ O.map fun e => aD e.2) = (O.map (·.2)).map aD := by rw [List.map_map]; rfl
        rw [e0]
        refine ⟨_, _, rfl, rfl, (sh_aD _).shaped (by decide), sh_acs _, _, rfl, ?_⟩
        show (if (!inD (aD (mul e.2 (act m [c]))) ((O.map (·.2)).map aD)) = true then _ else _)
        rw [inD_acs]
        by_cases hin : mul e.2 (act m [c]) ∈ O.map (·.2)
        · rw [decide_eq_true hin, if_neg (by simp)]
          refine hN _ ⟨some (.im (sg c)), some (.im (aD (mul e.2 (act m [c])))), ?_⟩
          rw [hfold]
          have : put m e O c = O := by unfold put; rw [if_pos (by simpa using hin)]
          rw [this]; rfl
        · rw [decide_eq_false hin, if_pos (by simp)]
          have le := iv.ln e heO
          refine ⟨_, rfl, _, rfl, _, rfl, _, _, rfl, at_nat (map_at he'), wD e.1, at_nat (i := 0) rfl, _, rfl, ?_⟩
          refine ⟨?_, _, rfl, _, rfl, two_small, _, rfl, ?_, hN _ ⟨some (.im (sg c)), some (.im (aD (mul e.2 (act m [c])))), ?_⟩⟩
          · show (wS e.1).length + 1 ≤ sizeLine
            have : (wS e.1).length = e.1.length := List.size_toArray
            rw [this, sizeLine_eq]; omega
          · rw [List.length_map, sizeLine_eq]; omega
          · rw [hfold]
            have : put m e O c = O ++ [(e.1 ++ [c], mul e.2 (act m [c]))] := by unfold put; rw [if_neg (by simpa using hin)]
            have w1 : eD (e.1 ++ [c], mul e.2 (act m [c])) = .tuple [.str (wS e.1 ++ ⟨#[c]⟩), aD (mul e.2 (act m [c]))] := by
              have : wD (e.1 ++ [c]) = .str (wS e.1 ++ ⟨#[c]⟩) := by
                show PyData.str _ = PyData.str _
                congr 1
                show (⟨(e.1 ++ [c]).toArray⟩ : Str) = ⟨e.1.toArray ++ #[c]⟩
                simp
              unfold eD
              rw [this]
            rw [this, List.map_append]
            show _ = Lδ _ _ _ (some (.ol (O.map eD ++ [eD (e.1 ++ [c], mul e.2 (act m [c]))]))) _ _ _ _ _ _ _ _ _ _ _ _ _ _
            rw [w1]
            rfl
      · rintro δ ⟨y7, y8, rfl⟩
        have iv := grow_inv ok inv he
        obtain ⟨f', rfl⟩ : ∃ f', f = f' + 1 := ⟨f - 1, by omega⟩
        rw [bfs_turn he ho] at hb
        obtain ⟨t, ht⟩ := fold_pre m e m.al o
        have fl := fold_len m e m.al o
        refine ⟨_, rfl, _, rfl, f', by omega, m.al.foldl (put m e) o, k + 1, y7, y8, by omega, iv, by rw [ht, List.length_append]; omega, by omega, hb, rfl⟩
    · rw [if_neg (by simp; omega)]
      exact after (.inl (by omega))
  · rw [if_neg (by simp; omega)]
    exact after (.inr (by omega))
end K35
set_option Elab.async false
set_option linter.all false
set_option maxRecDepth 100000
set_option maxHeartbeats 4000000
namespace K35
open PySem PySem.Spec L2 DW
abbrev s_begin : Stmt := top 16
abbrev s_take : Stmt := top 17
theorem sc_begin : FnScope nBegin ["script"] (defScope s_begin) := ⟨rfl, rfl, rfl, by decide +kernel, rfl, by decide +kernel, by decide +kernel⟩
theorem sc_take : FnScope nTake ["d", "many"] (defScope s_take) := ⟨rfl, rfl, rfl, by decide +kernel, rfl, by decide +kernel, by decide +kernel⟩
abbrev cxs (P : Program) (w : World) : CXT := L2.CX P w
section
variable {P : Program} {w : World} {K : PySem.W.Frag} {mg : Str → Option Value} {base : Heap}
theorem bd_begin (T : TT0 K mg) {f : Addr} (cdv : Value) (A : Around) (outer : List Env) (s : Shared) (H : Hp) (E : XK) : PSs (cxOf CX0 P w K mg base nBegin "_law_begin" (defScope s_begin) f cdv A outer s H E).nox (defBody s_begin) (t_begin K) :=
  pss_cons (ps_set (i := 1) sc_begin.nd rfl (.inl rfl) pe_int) (pss_cons (ps_for PassesOwn.never rfl (pi_list (pv 0)) (pg_name (i := 2) sc_begin.nd rfl (.inl rfl)) (pss_one (ps_set (i := 1) sc_begin.nd rfl (.inl rfl) (pe_op op_mod (pe_op op_add (pe_op op_add (pe_op op_mul (pv 1) pe_int) (pe_op op_mod (pe_callTy call_int1 (by rfl) T.int (by decide +kernel) (pa_cons (pv 2) pa_nil)) pe_int)) pe_int) pe_int))))
    (pss_one (ps_ret (pe_lst (pa_cons (pe_callTy call_list_of (by rfl) T.list (by decide +kernel) (pa_cons (pv 0) pa_nil)) (pa_cons pe_int (pa_cons pe_int (pa_cons (pv 1) pa_nil))))))))
theorem bd_take (T : TT0 K mg) {f : Addr} (cdv : Value) (A : Around) (outer : List Env) (s : Shared) (H : Hp) (E : XK) : PSs (cxOf CX0 P w K mg base nTake "_law_take" (defScope s_take) f cdv A outer s H E).nox (defBody s_take) (t_take K) :=
  pss_cons (ps_if (PW.pt (pw_and (pt_cmpR op_eq (pe_ix ix_list (pv 0) pe_int (fun _ _ => rfl)) pe_int (nomark _)) (pw_and1 (pt_cmpR op_lt (pe_ix ix_list (pv 0) pe_int (fun _ _ => rfl)) (pe_callB call_len (by rfl) T.len boot_len (pa_cons (pe_ix ix_list (pv 0) pe_int (fun _ _ => rfl)) pa_nil)) (nomark _)))))
     (pss_cons (ps_asg (pe_callB call_abs (by rfl) T.abs (by decide +kernel) (pa_cons (pe_callTy call_int1 (by rfl) T.int (by decide +kernel) (pa_cons (pe_ix ix_list (pe_ix ix_list (pv 0) pe_int (fun _ _ => rfl)) (pe_ix ix_list (pv 0) pe_int (fun _ _ => rfl)) (fun _ _ => rfl)) pa_nil)) pa_nil)) (pg_sub (pv 0) pe_int set_list)) (pss_cons (ps_asg (pe_op op_add (pe_ix ix_list (pv 0) pe_int (fun _ _ => rfl)) pe_int) (pg_sub (pv 0) pe_int set_list))
     (pss_one (ps_if (pt_cmpR op_lt (pe_ix ix_list (pv 0) pe_int (fun _ _ => rfl)) (pe_op op_pow pe_int pe_int) (nomark _)) (pss_cons (ps_set (i := 2) sc_take.nd rfl (.inl rfl) (pe_callTy call_int1 (by rfl) T.int (by decide +kernel) (pa_cons (pe_ix ix_list (pv 0) pe_int (fun _ _ => rfl)) pa_nil))) (pss_cons (ps_asg pe_int (pg_sub (pv 0) pe_int set_list)) (pss_one (ps_ret (pe_op op_mod (pv 2) (pv 1)))))) pss_nil)))) pss_nil)
    (pss_cons (ps_if (pt_cmpR op_gt (pe_ix ix_list (pv 0) pe_int (fun _ _ => rfl)) pe_int (nomark _)) (pss_cons (ps_set (i := 3) sc_take.nd rfl (.inl rfl) (pe_op op_mod (pe_callTy call_int1 (by rfl) T.int (by decide +kernel) (pa_cons (pe_ix ix_list (pv 0) pe_int (fun _ _ => rfl)) pa_nil)) (pv 1))) (pss_cons (ps_asg (pe_op op_fdivNN (pe_callTy call_int1 (by rfl) T.int (by decide +kernel) (pa_cons (pe_ix ix_list (pv 0) pe_int (fun _ _ => rfl)) pa_nil)) (pv 1)) (pg_sub (pv 0) pe_int set_list)) (pss_one (ps_ret (pv 3))))) pss_nil)
    (pss_cons (ps_asg (pe_op op_mod (pe_callTy call_int1 (by rfl) T.int (by decide +kernel) (pa_cons (pe_op op_add (pe_op op_mul (pe_ix ix_list (pv 0) pe_int (fun _ _ => rfl)) pe_int) pe_int) pa_nil)) pe_int) (pg_sub (pv 0) pe_int set_list)) (pss_one (ps_ret (pe_op op_mod (pe_callTy call_int1 (by rfl) T.int (by decide +kernel) (pa_cons (pe_op op_fdiv (pe_ix ix_list (pv 0) pe_int (fun _ _ => rfl)) pe_int) pa_nil)) (pv 1))))))
/-- what the head tells of the defs -/
structure Fs (K : PySem.W.Frag) (mg : Str → Option Value) : Prop where
  f_state_from : ∃ fd, FnP K "state_from" s_state_from (He.ga K "state_from") fd
  g_state_from : mg "state_from" = some (.ref (He.ga K "state_from"))
  f_action_of : ∃ fd, FnP K "action_of" s_action_of (He.ga K "action_of") fd
  g_action_of : mg "action_of" = some (.ref (He.ga K "action_of"))
  f_behind : ∃ fd, FnP K "behind" s_behind (He.ga K "behind") fd
  g_behind : mg "behind" = some (.ref (He.ga K "behind"))
  f_actions_of : ∃ fd, FnP K "actions_of" s_actions_of (He.ga K "actions_of") fd
  g_actions_of : mg "actions_of" = some (.ref (He.ga K "actions_of"))
  f_product_table : ∃ fd, FnP K "product_table" s_product_table (He.ga K "product_table") fd
  g_product_table : mg "product_table" = some (.ref (He.ga K "product_table"))
  f_index_of : ∃ fd, FnP K "index_of" s_index_of (He.ga K "index_of") fd
  g_index_of : mg "index_of" = some (.ref (He.ga K "index_of"))
  f_index_and_period : ∃ fd, FnP K "index_and_period" s_index_and_period (He.ga K "index_and_period") fd
  g_index_and_period : mg "index_and_period" = some (.ref (He.ga K "index_and_period"))
  f_counting : ∃ fd, FnP K "counting" s_counting (He.ga K "counting") fd
  g_counting : mg "counting" = some (.ref (He.ga K "counting"))
  f_stays : ∃ fd, FnP K "stays" s_stays (He.ga K "stays") fd
  g_stays : mg "stays" = some (.ref (He.ga K "stays"))
  f__law_begin : ∃ fd, FnP K "_law_begin" s_begin (He.ga K "_law_begin") fd
  g__law_begin : mg "_law_begin" = some (.ref (He.ga K "_law_begin"))
  f__law_take : ∃ fd, FnP K "_law_take" s_take (He.ga K "_law_take") fd
  g__law_take : mg "_law_take" = some (.ref (He.ga K "_law_take"))
  f__law_pick : ∃ fd, FnP K "_law_pick" s__law_pick (He.ga K "_law_pick") fd
  g__law_pick : mg "_law_pick" = some (.ref (He.ga K "_law_pick"))
  f__law_all : ∃ fd, FnP K "_law_all" s__law_all (He.ga K "_law_all") fd
  g__law_all : mg "_law_all" = some (.ref (He.ga K "_law_all"))
  f__law_longer : ∃ fd, FnP K "_law_longer" s__law_longer (He.ga K "_law_longer") fd
  g__law_longer : mg "_law_longer" = some (.ref (He.ga K "_law_longer"))
  f__law_machine : ∃ fd, FnP K "_law_machine" s__law_machine (He.ga K "_law_machine") fd
  g__law_machine : mg "_law_machine" = some (.ref (He.ga K "_law_machine"))
  f__law_state : ∃ fd, FnP K "_law_state" s__law_state (He.ga K "_law_state") fd
  g__law_state : mg "_law_state" = some (.ref (He.ga K "_law_state"))
  f__law_takes : ∃ fd, FnP K "_law_takes" s__law_takes (He.ga K "_law_takes") fd
  g__law_takes : mg "_law_takes" = some (.ref (He.ga K "_law_takes"))
  f__law_told : ∃ fd, FnP K "_law_told" s__law_told (He.ga K "_law_told") fd
  g__law_told : mg "_law_told" = some (.ref (He.ga K "_law_told"))
  f__law_do : ∃ fd, FnP K "_law_do" s__law_do (He.ga K "_law_do") fd
  g__law_do : mg "_law_do" = some (.ref (He.ga K "_law_do"))
  f__law_powers : ∃ fd, FnP K "_law_powers" s__law_powers (He.ga K "_law_powers") fd
  g__law_powers : mg "_law_powers" = some (.ref (He.ga K "_law_powers"))
  f_law : ∃ fd, FnP K "law" s_law (He.ga K "law") fd
  g_law : mg "law" = some (.ref (He.ga K "law"))
variable (T : TT0 K mg) (Z : Fs K mg)
include T Z
theorem k_state_from : C8.Cal P w K mg base 1 "state_from" (dSp K 3 S_state_from) [] := by
  obtain ⟨fd, FT⟩ := Z.f_state_from
  refine ⟨_, fd, ["machine", "state", "word"], [], ?_, Z.g_state_from, FT.kp, FT.bindsN (ps := ["machine", "state", "word"]) fun _ _ _ _ _ _ us hl => match us, hl with | [_, _, _], _ => rfl, .nil⟩
  exact dfn_ok (fun_of FT) sc_state_from rfl (by decide) (fun cdv A outer s H E G hr => D_state_from.2 T ⟨trivial⟩ _ cdv A outer s H E G hr) (fun rs P _ _ h => sem_state_from  rs P h) (fun _ _ _ h => h)
theorem k_behind : C8.Cal P w K mg base 1 "behind" (dSp K 2 S_behind) [] := by
  obtain ⟨fd, FT⟩ := Z.f_behind
  refine ⟨_, fd, ["one", "other"], [], ?_, Z.g_behind, FT.kp, FT.bindsN (ps := ["one", "other"]) fun _ _ _ _ _ _ us hl => match us, hl with | [_, _], _ => rfl, .nil⟩
  exact dfn_ok (fun_of FT) sc_behind rfl (by decide) (fun cdv A outer s H E G hr => D_behind.2 T ⟨trivial⟩ _ cdv A outer s H E G hr) (fun rs P _ _ h => sem_behind  rs P h) (fun _ _ _ h => h)
theorem k_begin : C8.Cal P w K mg base 1 "_law_begin" (spBegin K) [] := by
  obtain ⟨fd, FT⟩ := Z.f__law_begin
  refine ⟨_, fd, ["script"], [], ?_, Z.g__law_begin, FT.kp, FT.bindsN (ps := ["script"]) fun _ _ _ _ _ _ us hl => match us, hl with | [_], _ => rfl, .nil⟩
  exact FT.ok sc_begin (fun vs H Q E h => by obtain ⟨a, ns, rfl, _⟩ := h; rfl) fun cdv A outer s H vs Q E hr h => ⟨t_begin K, PSs.nox (bd_begin T cdv A outer s H E), sem_begin h⟩
theorem k__law_take : C8.Cal P w K mg base 1 "_law_take" (dSp K 2 S__law_take) [] := by
  obtain ⟨fd, FT⟩ := Z.f__law_take
  refine ⟨_, fd, ["d", "many"], [], ?_, Z.g__law_take, FT.kp, FT.bindsN (ps := ["d", "many"]) fun _ _ _ _ _ _ us hl => match us, hl with | [_, _], _ => rfl, .nil⟩
  exact FT.ok sc_take (fun vs H Q E h => dSp_len vs H Q E h) fun cdv A outer s H vs Q E hr h => ⟨t_take K, PSs.nox (bd_take T cdv A outer s H E), sem_take h⟩
theorem k__law_longer : C8.Cal P w K mg base 1 "_law_longer" (dSp K 2 S__law_longer) [] := by
  obtain ⟨fd, FT⟩ := Z.f__law_longer
  refine ⟨_, fd, ["alphabet", "level"], [], ?_, Z.g__law_longer, FT.kp, FT.bindsN (ps := ["alphabet", "level"]) fun _ _ _ _ _ _ us hl => match us, hl with | [_, _], _ => rfl, .nil⟩
  exact dfn_ok (fun_of FT) sc__law_longer rfl (by decide) (fun cdv A outer s H E G hr => D__law_longer.2 T ⟨trivial⟩ _ cdv A outer s H E G hr) (fun rs P _ _ h => sem__law_longer  rs P h) (fun _ _ _ h => h)
theorem k__law_state : C8.Cal P w K mg base 1 "_law_state" (dSp K 3 S__law_state) [] := by
  obtain ⟨fd, FT⟩ := Z.f__law_state
  refine ⟨_, fd, ["machine", "state", "word"], [], ?_, Z.g__law_state, FT.kp, FT.bindsN (ps := ["machine", "state", "word"]) fun _ _ _ _ _ _ us hl => match us, hl with | [_, _, _], _ => rfl, .nil⟩
  exact dfn_ok (fun_of FT) sc__law_state rfl (by decide) (fun cdv A outer s H E G hr => D__law_state.2 T ⟨trivial⟩ _ cdv A outer s H E G hr) (fun rs P _ _ h => sem__law_state  rs P h) (fun _ _ _ h => h)
theorem k__law_do : C8.Cal P w K mg base 1 "_law_do" (dSp K 2 S__law_do) [] := by
  obtain ⟨fd, FT⟩ := Z.f__law_do
  refine ⟨_, fd, ["one", "other"], [], ?_, Z.g__law_do, FT.kp, FT.bindsN (ps := ["one", "other"]) fun _ _ _ _ _ _ us hl => match us, hl with | [_, _], _ => rfl, .nil⟩
  exact dfn_ok (fun_of FT) sc__law_do rfl (by decide) (fun cdv A outer s H E G hr => D__law_do.2 T ⟨trivial⟩ _ cdv A outer s H E G hr) (fun rs P _ _ h => sem__law_do  rs P h) (fun _ _ _ h => h)
theorem k_action_of : C8.Cal P w K mg base 2 "action_of" (dSp K 2 S_action_of) [] := by
  obtain ⟨fd, FT⟩ := Z.f_action_of
  refine ⟨_, fd, ["machine", "word"], [], ?_, Z.g_action_of, FT.kp, FT.bindsN (ps := ["machine", "word"]) fun _ _ _ _ _ _ us hl => match us, hl with | [_, _], _ => rfl, .nil⟩
  exact dfn_ok (fun_of FT) sc_action_of rfl (by decide) (fun cdv A outer s H E G hr => D_action_of.2 T ⟨k_state_from T Z⟩ _ cdv A outer s H E G hr) (fun rs P _ _ h => sem_action_of  rs P h) (fun _ _ _ h => h)
theorem k_index_of : C8.Cal P w K mg base 2 "index_of" (dSp K 1 S_index_of) [] := by
  obtain ⟨fd, FT⟩ := Z.f_index_of
  refine ⟨_, fd, ["action"], [], ?_, Z.g_index_of, FT.kp, FT.bindsN (ps := ["action"]) fun _ _ _ _ _ _ us hl => match us, hl with | [_], _ => rfl, .nil⟩
  exact dfn_ok (fun_of FT) sc_index_of rfl (by decide) (fun cdv A outer s H E G hr => D_index_of.2 T ⟨k_behind T Z⟩ _ cdv A outer s H E G hr) (fun rs P _ _ h => sem_index_of  rs P h) (fun _ _ _ h => h)
theorem k__law_pick : C8.Cal P w K mg base 2 "_law_pick" (dSp K 2 S__law_pick) [] := by
  obtain ⟨fd, FT⟩ := Z.f__law_pick
  refine ⟨_, fd, ["d", "menu"], [], ?_, Z.g__law_pick, FT.kp, FT.bindsN (ps := ["d", "menu"]) fun _ _ _ _ _ _ us hl => match us, hl with | [_, _], _ => rfl, .nil⟩
  exact dfn_ok (fun_of FT) sc__law_pick rfl (by decide) (fun cdv A outer s H E G hr => D__law_pick.2 T ⟨k__law_take T Z⟩ _ cdv A outer s H E G hr) (fun rs P _ _ h => sem__law_pick  rs P h) (fun _ _ _ h => h)
theorem k__law_all : C8.Cal P w K mg base 2 "_law_all" (dSp K 2 S__law_all) [] := by
  obtain ⟨fd, FT⟩ := Z.f__law_all
  refine ⟨_, fd, ["alphabet", "length"], [], ?_, Z.g__law_all, FT.kp, FT.bindsN (ps := ["alphabet", "length"]) fun _ _ _ _ _ _ us hl => match us, hl with | [_, _], _ => rfl, .nil⟩
  exact dfn_ok (fun_of FT) sc__law_all rfl (by decide) (fun cdv A outer s H E G hr => D__law_all.2 T ⟨k__law_longer T Z⟩ _ cdv A outer s H E G hr) (fun rs P _ _ h => sem__law_all  rs P h) (fun _ _ _ h => h)
theorem k__law_takes : C8.Cal P w K mg base 2 "_law_takes" (dSp K 2 S__law_takes) [] := by
  obtain ⟨fd, FT⟩ := Z.f__law_takes
  refine ⟨_, fd, ["machine", "word"], [], ?_, Z.g__law_takes, FT.kp, FT.bindsN (ps := ["machine", "word"]) fun _ _ _ _ _ _ us hl => match us, hl with | [_, _], _ => rfl, .nil⟩
  exact dfn_ok (fun_of FT) sc__law_takes rfl (by decide) (fun cdv A outer s H E G hr => D__law_takes.2 T ⟨k__law_state T Z⟩ _ cdv A outer s H E G hr) (fun rs P _ _ h => sem__law_takes  rs P h) (fun _ _ _ h => h)
theorem k__law_powers : C8.Cal P w K mg base 2 "_law_powers" (dSp K 1 S__law_powers) [] := by
  obtain ⟨fd, FT⟩ := Z.f__law_powers
  refine ⟨_, fd, ["action"], [], ?_, Z.g__law_powers, FT.kp, FT.bindsN (ps := ["action"]) fun _ _ _ _ _ _ us hl => match us, hl with | [_], _ => rfl, .nil⟩
  exact dfn_ok (fun_of FT) sc__law_powers rfl (by decide) (fun cdv A outer s H E G hr => D__law_powers.2 T ⟨k__law_do T Z⟩ _ cdv A outer s H E G hr) (fun rs P _ _ h => sem__law_powers  rs P h) (fun _ _ _ h => h)
theorem k_actions_of : CalX P w K mg base 3 "actions_of" (dSp K 1 (S_actions_of K)) := by
  obtain ⟨fd, FT⟩ := Z.f_actions_of
  refine ⟨_, fd, ["machine"], ?_, Z.g_actions_of, FT.kp, FT.bindsN (ps := ["machine"]) fun _ _ _ _ _ _ us hl => match us, hl with | [_], _ => rfl⟩
  exact dfn_okX (fun_of FT) sc_actions_of rfl (by decide) (fun cdv A outer s H E G hr => D_actions_of.2 T ⟨k_action_of T Z, k_behind T Z⟩ _ cdv A outer s H E G hr) (fun rs P PX _ _ h => sem_actions_of  rs P PX h)
theorem k_index_and_period : C8.Cal P w K mg base 3 "index_and_period" (dSp K 2 S_index_and_period) [] := by
  obtain ⟨fd, FT⟩ := Z.f_index_and_period
  refine ⟨_, fd, ["machine", "word"], [], ?_, Z.g_index_and_period, FT.kp, FT.bindsN (ps := ["machine", "word"]) fun _ _ _ _ _ _ us hl => match us, hl with | [_, _], _ => rfl, .nil⟩
  exact dfn_ok (fun_of FT) sc_index_and_period rfl (by decide) (fun cdv A outer s H E G hr => D_index_and_period.2 T ⟨k_action_of T Z, k_index_of T Z⟩ _ cdv A outer s H E G hr) (fun rs P _ _ h => sem_index_and_period  rs P h) (fun _ _ _ h => h)
theorem k__law_machine : C8.Cal P w K mg base 3 "_law_machine" (dSp K 2 S__law_machine) [] := by
  obtain ⟨fd, FT⟩ := Z.f__law_machine
  refine ⟨_, fd, ["d", "most"], [], ?_, Z.g__law_machine, FT.kp, FT.bindsN (ps := ["d", "most"]) fun _ _ _ _ _ _ us hl => match us, hl with | [_, _], _ => rfl, .nil⟩
  exact dfn_ok (fun_of FT) sc__law_machine rfl (by decide) (fun cdv A outer s H E G hr => D__law_machine.2 T ⟨k__law_take T Z, k__law_pick T Z⟩ _ cdv A outer s H E G hr) (fun rs P _ _ h => sem__law_machine  rs P h) (fun _ _ _ h => h)
theorem k_product_table : CalX P w K mg base 4 "product_table" (dSp K 1 (S_product_table K)) := by
  obtain ⟨fd, FT⟩ := Z.f_product_table
  refine ⟨_, fd, ["machine"], ?_, Z.g_product_table, FT.kp, FT.bindsN (ps := ["machine"]) fun _ _ _ _ _ _ us hl => match us, hl with | [_], _ => rfl⟩
  exact dfn_okX (fun_of FT) sc_product_table rfl (by decide) (fun cdv A outer s H E G hr => D_product_table.2 T ⟨k_behind T Z, k_actions_of T Z⟩ _ cdv A outer s H E G hr) (fun rs P PX _ _ h => sem_product_table  rs P PX h)
theorem k_counting : CalX P w K mg base 4 "counting" (dSp K 1 (S_counting K)) := by
  obtain ⟨fd, FT⟩ := Z.f_counting
  refine ⟨_, fd, ["machine"], ?_, Z.g_counting, FT.kp, FT.bindsN (ps := ["machine"]) fun _ _ _ _ _ _ us hl => match us, hl with | [_], _ => rfl⟩
  exact dfn_okX (fun_of FT) sc_counting rfl (by decide) (fun cdv A outer s H E G hr => D_counting.2 T ⟨k_actions_of T Z, k_index_of T Z⟩ _ cdv A outer s H E G hr) (fun rs P PX _ _ h => sem_counting  rs P PX h)
theorem k_stays : CalX P w K mg base 4 "stays" (dSp K 1 (S_stays K)) := by
  obtain ⟨fd, FT⟩ := Z.f_stays
  refine ⟨_, fd, ["machine"], ?_, Z.g_stays, FT.kp, FT.bindsN (ps := ["machine"]) fun _ _ _ _ _ _ us hl => match us, hl with | [_], _ => rfl⟩
  exact dfn_okX (fun_of FT) sc_stays rfl (by decide) (fun cdv A outer s H E G hr => D_stays.2 T ⟨k_behind T Z, k_actions_of T Z⟩ _ cdv A outer s H E G hr) (fun rs P PX _ _ h => sem_stays  rs P PX h)
theorem k__law_told : C8.Cal P w K mg base 4 "_law_told" (dSp K 1 S__law_told) [] := by
  obtain ⟨fd, FT⟩ := Z.f__law_told
  refine ⟨_, fd, ["machine"], [], ?_, Z.g__law_told, FT.kp, FT.bindsN (ps := ["machine"]) fun _ _ _ _ _ _ us hl => match us, hl with | [_], _ => rfl, .nil⟩
  exact dfn_okF (fun_of FT) sc__law_told rfl (by decide) (fun cdv A outer s H E G hr => D__law_told.2 T ⟨k_actions_of T Z⟩ _ cdv A outer s H E G hr) (fun rs P _ _ h => sem__law_told T.m_LargeError rs P h) (fun _ _ _ h => h)
theorem k_law {f : Addr} {fd : FuncData} (FT : FnP K "law" s_law f fd) : FnOk P w K mg base (L2.CX P w) 5 f fd ["script"] (spLaw K) := by
  refine FT.ok sc_law (fun vs H Q E h => by obtain ⟨a, ns, rfl, _⟩ := h; rfl) fun cdv A outer s H vs Q E hr h => ⟨_, pss_cons (ps_set (i := 1) sc_law.nd rfl (.inr rfl) (C8.pe_c (k_begin T Z) hr (by decide) (by rfl) (pa_cons (pv 0) pa_nil))) (law_tail fun G => D_law.2 T ⟨k_action_of T Z, k_product_table T Z, k_index_and_period T Z, k_counting T Z, k_stays T Z, k__law_pick T Z, k__law_all T Z, k__law_machine T Z, k__law_state T Z, k__law_takes T Z, k__law_told T Z, k__law_do T Z, k__law_powers T Z⟩ f cdv A outer s H E G hr), ?_⟩
  exact law_start (N := n_law) (n := 24) rfl (fun P PX p => sem_law P PX p) h
end
def fnl : List He.DefD := [⟨("state_from", none), "state_from", "state_from", defArgs s_state_from, defBody s_state_from, defScope s_state_from, [], []⟩, ⟨("action_of", none), "action_of", "action_of", defArgs s_action_of, defBody s_action_of, defScope s_action_of, [], []⟩, ⟨("behind", none), "behind", "behind", defArgs s_behind, defBody s_behind, defScope s_behind, [], []⟩, ⟨("actions_of", none), "actions_of", "actions_of", defArgs s_actions_of, defBody s_actions_of, defScope s_actions_of, [], []⟩, ⟨("product_table", none), "product_table", "product_table", defArgs s_product_table, defBody s_product_table, defScope s_product_table, [], []⟩, ⟨("index_of", none), "index_of", "index_of", defArgs s_index_of, defBody s_index_of, defScope s_index_of, [], []⟩, ⟨("index_and_period", none), "index_and_period", "index_and_period", defArgs s_index_and_period, defBody s_index_and_period, defScope s_index_and_period, [], []⟩, ⟨("counting", none), "counting", "counting", defArgs s_counting, defBody s_counting, defScope s_counting, [], []⟩, ⟨("stays", none), "stays", "stays", defArgs s_stays, defBody s_stays, defScope s_stays, [], []⟩, ⟨("_law_begin", none), "_law_begin", "_law_begin", defArgs s_begin, defBody s_begin, defScope s_begin, [], []⟩, ⟨("_law_take", none), "_law_take", "_law_take", defArgs s_take, defBody s_take, defScope s_take, [], []⟩, ⟨("_law_pick", none), "_law_pick", "_law_pick", defArgs s__law_pick, defBody s__law_pick, defScope s__law_pick, [], []⟩, ⟨("_law_all", none), "_law_all", "_law_all", defArgs s__law_all, defBody s__law_all, defScope s__law_all, [], []⟩, ⟨("_law_longer", none), "_law_longer", "_law_longer", defArgs s__law_longer, defBody s__law_longer, defScope s__law_longer, [], []⟩, ⟨("_law_machine", none), "_law_machine", "_law_machine", defArgs s__law_machine, defBody s__law_machine, defScope s__law_machine, [], []⟩, ⟨("_law_state", none), "_law_state", "_law_state", defArgs s__law_state, defBody s__law_state, defScope s__law_state, [], []⟩, ⟨("_law_takes", none), "_law_takes", "_law_takes", defArgs s__law_takes, defBody s__law_takes, defScope s__law_takes, [], []⟩, ⟨("_law_told", none), "_law_told", "_law_told", defArgs s__law_told, defBody s__law_told, defScope s__law_told, [], []⟩, ⟨("_law_do", none), "_law_do", "_law_do", defArgs s__law_do, defBody s__law_do, defScope s__law_do, [], []⟩, ⟨("_law_powers", none), "_law_powers", "_law_powers", defArgs s__law_powers, defBody s__law_powers, defScope s__law_powers, [], []⟩, ⟨("law", none), "law", "law", defArgs s_law, defBody s_law, defScope s_law, [], []⟩]
def fal : List He.Fa := [.glo "state_from", .glo "action_of", .glo "behind", .glo "actions_of", .glo "product_table", .glo "index_of", .glo "index_and_period", .glo "counting", .glo "stays", .glo "_law_begin", .glo "_law_take", .glo "_law_pick", .glo "_law_all", .glo "_law_longer", .glo "_law_machine", .glo "_law_state", .glo "_law_takes", .glo "_law_told", .glo "_law_do", .glo "_law_powers", .glo "law", .free "len", .free "abs", .free "int", .free "list", .free "tuple", .free "range", .free "enumerate", .free "max", .free "set", .int "MOST_ACTIONS" 200, .glo "LargeError", .exc "LargeError", .exm "LargeError" "LargeError" true]
abbrev RR : PySem.W.OpenRow := PySem.W.OpenLaw.row PySem.Challenge.rw_grammarhall_k35_whole_actions
abbrev hk : PySem.W.Hook := He.hookD 5 fal fnl
def ob (s : PySem.W.SharedT) : He.AlD := He.obsDG 5 fal fnl (HandSHeadRun.getT s)
theorem ob_eq (s : PySem.W.SharedT) : ob s = hk.obs s.abs := He.obsDG_eq (HandSHeadRun.getT_eq s)
def lse : List PySem.Str := ["GrammarError", "LargeError", "state_from", "MOST_ACTIONS", "action_of", "behind", "actions_of", "product_table", "index_of", "index_and_period", "counting", "stays", "_law_begin", "_law_take", "_law_pick", "_law_all", "_law_longer", "_law_machine", "_law_state", "_law_takes", "_law_told", "_law_do", "_law_powers"]
set_option maxHeartbeats 0 in
theorem run (w : World) : HandSHeadRun.RunEq RR (PySem.W.view RR.prog [27]) hk ob 4000 lse w := by
  intro os
  kernel_rfl
theorem facts {w : World} {K : PySem.W.Frag} {h : Heap} {mg : Str → Option Value} {f : Addr} (X : K.In h) (G : h.Ns mainGlobals mg) (hfa : mg ("law" : Str) = some (.ref f)) (c : He.SaysD fal fnl K) :
    ∃ fd : FuncData, (∀ (s : Shared) (v : Value), BindsTo s fd ⟨[v], []⟩ [("script", v)]) ∧ ∀ base : Heap, K.In base → base.Ns mainGlobals mg → FnOk (PySem.Challenge.rw_grammarhall_k35_whole_actions).prog w K mg base (L2.CX (PySem.Challenge.rw_grammarhall_k35_whole_actions).prog w) 5 f fd ["script"] (spLaw K) := by
  obtain ⟨x1_LargeError, x2_LargeError, x3_LargeError, x4_LargeError⟩ := He.exc_ok (c.fact 32 (f := .exc "LargeError") rfl)
  have T : TT0 K mg := ⟨He.free_ok X G (c.fact 21 (f := .free "len") rfl), He.free_ok X G (c.fact 22 (f := .free "abs") rfl), He.free_ok X G (c.fact 23 (f := .free "int") rfl), He.free_ok X G (c.fact 24 (f := .free "list") rfl), He.free_ok X G (c.fact 25 (f := .free "tuple") rfl), He.free_ok X G (c.fact 26 (f := .free "range") rfl), He.free_ok X G (c.fact 27 (f := .free "enumerate") rfl), He.free_ok X G (c.fact 28 (f := .free "max") rfl), He.free_ok X G (c.fact 29 (f := .free "set") rfl), He.int_ok X G (c.fact 30 (f := .int "MOST_ACTIONS" 200) rfl), ⟨He.glo_ok X G (c.fact 31 (f := .glo "LargeError") rfl), x1_LargeError, x2_LargeError, x3_LargeError, x4_LargeError⟩, He.exm_ok (c.fact 33 (f := .exm "LargeError" "LargeError" true) rfl)⟩
  have Z : Fs K mg := ⟨c.def_ 0 rfl, He.glo_ok X G (c.fact 0 (f := .glo "state_from") rfl), c.def_ 1 rfl, He.glo_ok X G (c.fact 1 (f := .glo "action_of") rfl), c.def_ 2 rfl, He.glo_ok X G (c.fact 2 (f := .glo "behind") rfl), c.def_ 3 rfl, He.glo_ok X G (c.fact 3 (f := .glo "actions_of") rfl), c.def_ 4 rfl, He.glo_ok X G (c.fact 4 (f := .glo "product_table") rfl), c.def_ 5 rfl, He.glo_ok X G (c.fact 5 (f := .glo "index_of") rfl), c.def_ 6 rfl, He.glo_ok X G (c.fact 6 (f := .glo "index_and_period") rfl), c.def_ 7 rfl, He.glo_ok X G (c.fact 7 (f := .glo "counting") rfl), c.def_ 8 rfl, He.glo_ok X G (c.fact 8 (f := .glo "stays") rfl), c.def_ 9 rfl, He.glo_ok X G (c.fact 9 (f := .glo "_law_begin") rfl), c.def_ 10 rfl, He.glo_ok X G (c.fact 10 (f := .glo "_law_take") rfl), c.def_ 11 rfl, He.glo_ok X G (c.fact 11 (f := .glo "_law_pick") rfl), c.def_ 12 rfl, He.glo_ok X G (c.fact 12 (f := .glo "_law_all") rfl), c.def_ 13 rfl, He.glo_ok X G (c.fact 13 (f := .glo "_law_longer") rfl), c.def_ 14 rfl, He.glo_ok X G (c.fact 14 (f := .glo "_law_machine") rfl), c.def_ 15 rfl, He.glo_ok X G (c.fact 15 (f := .glo "_law_state") rfl), c.def_ 16 rfl, He.glo_ok X G (c.fact 16 (f := .glo "_law_takes") rfl), c.def_ 17 rfl, He.glo_ok X G (c.fact 17 (f := .glo "_law_told") rfl), c.def_ 18 rfl, He.glo_ok X G (c.fact 18 (f := .glo "_law_do") rfl), c.def_ 19 rfl, He.glo_ok X G (c.fact 19 (f := .glo "_law_powers") rfl), c.def_ 20 rfl, He.glo_ok X G (c.fact 20 (f := .glo "law") rfl)⟩
  obtain ⟨fd, F⟩ := Z.f_law
  have e := hfa.symm.trans Z.g_law
  cases e
  have b := FunD.bindsA (ps := ["script"]) F fun _ _ _ _ _ _ us hl => match us, hl with | [_], _ => rfl
  exact ⟨fd, fun s v => b s [v] rfl, fun base _ _ => k_law T Z F⟩
end K35
open PySem PySem.W PySem.Calls PyProof.Rows
theorem PySem.Challenge.cw_grammarhall_k35_whole_actions_holds : PySem.Challenge.rw_grammarhall_k35_whole_actions.Holds := by
  w_on; o_law
  refine HandSHeadRun.head_any (r := OpenLaw.row PySem.Challenge.rw_grammarhall_k35_whole_actions) (q := view (OpenLaw.row PySem.Challenge.rw_grammarhall_k35_whole_actions).prog [27]) (H := K35.hk) (ob := K35.ob) (M := 4000) (loose := K35.lse) (d := HandSHeadRun.topDef (OpenLaw.row PySem.Challenge.rw_grammarhall_k35_whole_actions).prog 27) (kwd := []) K35.ob_eq
    (by kernel_rfl) (fun s => by kernel_rfl) K35.run (by kernel_rfl) (by kernel_rfl) (by kernel_rfl) (by rfl) (by first | assumption | decide +kernel) (by decide +kernel) ⟨rfl, rfl, rfl, rfl, rfl, by decide +kernel⟩ ?hw ?hc
  case hw => w_witness2
  case hc =>
    refine DW.walk_bits (l := PySem.Challenge.rw_grammarhall_k35_whole_actions) (n := 63) (k := 5) (x := "script") (CX := fun w => L2.CX (PySem.Challenge.rw_grammarhall_k35_whole_actions).prog w) rfl (by decide) (by kernel_rfl) ⟨rfl, by decide, by decide⟩ ?F (fun w H s e s' z => by obtain ⟨_, _, _, _, _, _, _, _, _, _, _, _, z⟩ := z; exact z)
    intro w mg fa h Y G hmg0
    obtain ⟨K, KX, c⟩ := Y
    have e : (HandSHeadRun.topDef (OpenLaw.row PySem.Challenge.rw_grammarhall_k35_whole_actions).prog 27).name = ("law" : PySem.Str) := by kernel_rfl
    have hmg : mg ("law" : PySem.Str) = some (.ref fa) := by rw [← e]; exact hmg0
    obtain ⟨fd, hb, hF⟩ := K35.facts (w := w) KX G hmg c
    exact ⟨K, fd, DW.spLaw K, KX, hb, fun H a ns hl hz hS => ⟨a, ns, rfl, hS, hl, hz, fun _ => rfl⟩, hF⟩
