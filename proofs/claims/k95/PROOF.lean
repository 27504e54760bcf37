import PyProof.Rows.All
import HandS.ForMost
import HandS.Zip
import HandS.Conv
import HandS.IsInst
import HandS.Flow
import HandS.Style
import HandS.NoneIn
import HandS.Deep
import HandS.TupAny
import HandS.TupMul
import HandS.SortInts
import HandS.Rev
import HandS.Defaults
import HandS.Wide
import HandS.SetFor
import HandS.Exc
import HandS.TryOnly
import HandS.CallSlots
import HandS.ExcInit
import HandS.SlotsVar
import HandS.Property
import KE.GoesEnum
import KE.GoesMore
import PyProof.FactsAll.tuple_1
import HandS.Strs
import HandS.Head0
import HandS.Head1
import HandS.Head2
import HandS.HeadEnd
import HandS.HeadHook1
import HandS.HeadHook2
import KE.KStateDown
import PySem.Challenge.RW_boundedlevels_k95_main_what_readings_tel
set_option Elab.async false
set_option linter.all false
set_option maxRecDepth 100000
namespace RF
open PySem PySem.Spec L2

/-- plain data -/
inductive D where
  | non | bl (b : Bool) | int (i : Int) | str (s : Str) | tup (ds : List D) | lst (ds : List D)
  | obj (c : Nat) (fs : List D) | kls (ds : List D)
  deriving Inhabited

mutual
/-- v stands for the data d, by the heap H -/
inductive Rep (K : PySem.W.Frag) (H : Hp) : V → D → Prop
  | non : Rep K H .non .non
  | bl (b : Bool) : Rep K H (.bl b) (.bl b)
  | int (i : Int) : Rep K H (.int i) (.int i)
  | str (s : Str) : Rep K H (.str s) (.str s)
  | tup {a : Addr} {xs : List V} {ds : List D} : SqT K H a xs → RepL K H xs ds → Rep K H (.ref a) (.tup ds)
  | lst {a : Addr} {xs : List V} {ds : List D} : Rd H a (.lst xs) → RepL K H xs ds → Rep K H (.ref a) (.lst ds)
  | kls {a : Addr} {xs : List V} {ds : List D} : SqL K H a xs → RepL K H xs ds → Rep K H (.ref a) (.kls ds)
inductive RepL (K : PySem.W.Frag) (H : Hp) : List V → List D → Prop
  | nil : RepL K H [] []
  | cons {v : V} {vs : List V} {d : D} {ds : List D} : Rep K H v d → RepL K H vs ds → RepL K H (v :: vs) (d :: ds)
end

theorem sameR {H H' : Hp} {a : Addr} {u : HO} (e : Same H H') (h : Rd H a u) : Rd H' a u := by
  rcases h with h | ⟨o, h⟩
  · exact .inl (e _ _ h)
  · exact .inr ⟨o, e _ _ h⟩
theorem sameL {K : PySem.W.Frag} {H H' : Hp} {a : Addr} {xs : List V} (e : Same H H') (h : SqL K H a xs) : SqL K H' a xs := h.imp (sameR e) id
theorem sameT {K : PySem.W.Frag} {H H' : Hp} {a : Addr} {xs : List V} (e : Same H H') (h : SqT K H a xs) : SqT K H' a xs := by
  rcases h with (h | ⟨o, h⟩) | h
  · exact .inl (.inl (e _ _ h))
  · exact .inl (.inr ⟨o, e _ _ h⟩)
  · exact .inr h

mutual
theorem Rep.mono {K : PySem.W.Frag} {H H' : Hp} (e : Same H H') : ∀ {v : V} {d : D}, Rep K H v d → Rep K H' v d
  | _, _, .non => .non
  | _, _, .bl b => .bl b
  | _, _, .int i => .int i
  | _, _, .str s => .str s
  | _, _, .tup h r => .tup (sameT e h) (RepL.mono e r)
  | _, _, .lst h r => .lst (sameR e h) (RepL.mono e r)
  | _, _, .kls h r => .kls (sameL e h) (RepL.mono e r)
theorem RepL.mono {K : PySem.W.Frag} {H H' : Hp} (e : Same H H') : ∀ {vs : List V} {ds : List D}, RepL K H vs ds → RepL K H' vs ds
  | _, _, .nil => .nil
  | _, _, .cons h r => .cons (Rep.mono e h) (RepL.mono e r)
end

section
variable {K : PySem.W.Frag} {H : Hp}
theorem RepL.length : ∀ {vs : List V} {ds : List D}, RepL K H vs ds → vs.length = ds.length
  | _, _, .nil => rfl
  | _, _, .cons _ r => congrArg (· + 1) r.length
theorem RepL.get : ∀ {vs : List V} {ds : List D} {i : Nat} {v : V}, RepL K H vs ds → vs[i]? = some v → ∃ d, ds[i]? = some d ∧ Rep K H v d
  | _, _, _, _, .nil, e => by simp at e
  | _, _, 0, _, .cons h _, e => by simp at e; subst e; exact ⟨_, rfl, h⟩
  | _, _, i + 1, v, .cons _ r, e => by
    obtain ⟨d, h1, h2⟩ := RepL.get (i := i) (v := v) r (by simpa using e)
    exact ⟨d, by simpa using h1, h2⟩
theorem RepL.getD : ∀ {vs : List V} {ds : List D} {i : Nat} {d : D}, RepL K H vs ds → ds[i]? = some d → ∃ v, vs[i]? = some v ∧ Rep K H v d
  | _, _, _, _, .nil, e => by simp at e
  | _, _, 0, _, .cons h _, e => by simp at e; subst e; exact ⟨_, rfl, h⟩
  | _, _, i + 1, v, .cons _ r, e => by
    obtain ⟨d, h1, h2⟩ := RepL.getD (i := i) (d := v) r (by simpa using e)
    exact ⟨d, by simpa using h1, h2⟩
theorem RepL.append : ∀ {vs ws : List V} {ds es : List D}, RepL K H vs ds → RepL K H ws es → RepL K H (vs ++ ws) (ds ++ es)
  | _, _, _, _, .nil, s => s
  | _, _, _, _, .cons h r, s => .cons h (RepL.append r s)
theorem RepL.take : ∀ {vs : List V} {ds : List D} (n : Nat), RepL K H vs ds → RepL K H (vs.take n) (ds.take n)
  | _, _, 0, _ => .nil
  | _, _, _ + 1, .nil => .nil
  | _, _, n + 1, .cons h r => .cons h (RepL.take n r)
theorem RepL.drop : ∀ {vs : List V} {ds : List D} (n : Nat), RepL K H vs ds → RepL K H (vs.drop n) (ds.drop n)
  | _, _, 0, r => r
  | _, _, _ + 1, .nil => .nil
  | _, _, n + 1, .cons _ r => RepL.drop n r
theorem RepL.set {v : V} {d : D} (h : Rep K H v d) : ∀ {vs : List V} {ds : List D} (i : Nat), RepL K H vs ds → RepL K H (vs.set i v) (ds.set i d)
  | _, _, _, .nil => .nil
  | _, _, 0, .cons _ r => .cons h r
  | _, _, i + 1, .cons q r => .cons q (RepL.set h i r)
theorem RepL.eraseIdx : ∀ {vs : List V} {ds : List D} (i : Nat), RepL K H vs ds → RepL K H (vs.eraseIdx i) (ds.eraseIdx i)
  | _, _, _, .nil => .nil
  | _, _, 0, .cons _ r => r
  | _, _, i + 1, .cons q r => .cons q (RepL.eraseIdx i r)
theorem RepL.reverse {vs : List V} {ds : List D} (r : RepL K H vs ds) : RepL K H vs.reverse ds.reverse := by
  induction vs generalizing ds with
  | nil => cases r; exact .nil
  | cons v vs ih =>
    cases r with
    | cons h r =>
      rw [List.reverse_cons, List.reverse_cons]
      exact (ih r).append (.cons h .nil)
theorem RepL.rep {vs : List V} {ds : List D} (r : RepL K H vs ds) : ∀ n : Nat, RepL K H (List.replicate n vs).flatten (List.replicate n ds).flatten
  | 0 => .nil
  | n + 1 => by
    rw [List.replicate_succ, List.replicate_succ, List.flatten_cons, List.flatten_cons]
    exact r.append (RepL.rep r n)
theorem RepL.ints : ∀ {vs : List V} {ns : List Int}, RepL K H vs (ns.map D.int) → vs = ns.map V.int
  | _, [], .nil => rfl
  | _, n :: ns, .cons h r => by
    cases h
    rw [List.map_cons, RepL.ints r]
theorem RepL.of_ints : ∀ ns : List Int, RepL K H (ns.map V.int) (ns.map D.int)
  | [] => .nil
  | n :: ns => .cons (.int n) (RepL.of_ints ns)
theorem RepL.bls : ∀ {vs : List V} {ns : List Bool}, RepL K H vs (ns.map D.bl) → vs = ns.map V.bl
  | _, [], .nil => rfl
  | _, n :: ns, .cons h r => by
    cases h
    rw [List.map_cons, RepL.bls r]
theorem RepL.strs : ∀ {vs : List V} {ns : List Str}, RepL K H vs (ns.map D.str) → vs = ns.map V.str
  | _, [], .nil => rfl
  | _, n :: ns, .cons h r => by
    cases h
    rw [List.map_cons, RepL.strs r]
end

/-- what may stand open -/
inductive Cell where
  | lst (ds : List D)
@[simp] def Cell.d : Cell → D
  | .lst ds => .lst ds
def CellAt (K : PySem.W.Frag) (F H : Hp) (a : Addr) : Cell → Prop
  | .lst ds => ∃ xs, H a = some (.lst xs) ∧ RepL K F xs ds
theorem CellAt.mono {K : PySem.W.Frag} {F F' H H' : Hp} {a : Addr} {c : Cell} (h : CellAt K F H a c) (f : Same F F') (e : ∀ o, H a = some o → H' a = some o) : CellAt K F' H' a c := by
  cases c with
  | lst ds =>
    obtain ⟨xs, h1, h2⟩ := h
    exact ⟨xs, e _ h1, h2.mono f⟩
theorem CellAt.ex {K : PySem.W.Frag} {F H : Hp} {a : Addr} {c : Cell} (h : CellAt K F H a c) : ∃ o, H a = some o := by
  cases c with
  | lst ds =>
    obtain ⟨xs, h1, h2⟩ := h
    exact ⟨_, h1⟩
theorem CellAt.rep {K : PySem.W.Frag} {F H F' : Hp} {a : Addr} {c : Cell} (h : CellAt K F H a c) (f : Same F F') (e : ∀ o, H a = some o → F' a = some o) : Rep K F' (.ref a) c.d := by
  cases c with
  | lst ds =>
    obtain ⟨xs, h1, h2⟩ := h
    exact .lst (.inl (e _ h1)) (h2.mono f)

/-- a slot's content -/
inductive SV where
  | val (d : D) | own (c : Cell) | bref (c : Cell) | bval (d : D)
abbrev Sl := List (Option SV)
@[simp] def SV.open? : SV → Option Cell
  | .own c => some c
  | .bref c => some c
  | _ => none

/-- the slot i holds an open thing at a -/
def OwnAt (σ : St) (sl : Sl) (i : Nat) (a : Addr) : Prop := ∃ x c, sl[i]? = some (some x) ∧ x.open? = some c ∧ σ[i]? = some (some (.ref a))
def Owns (σ : St) (sl : Sl) (a : Addr) : Prop := ∃ i, OwnAt σ sl i a

def SlotOk (K : PySem.W.Frag) (F H : Hp) (v : Option V) : Option SV → Prop
  | none => True
  | some (.val d) => ∃ x, v = some x ∧ Rep K F x d
  | some (.bval d) => ∃ a, v = some (.ref a) ∧ Rep K F (.ref a) d ∧ F a ≠ none
  | some (.own c) => ∃ a, v = some (.ref a) ∧ CellAt K F H a c ∧ F a = none
  | some (.bref c) => ∃ a, v = some (.ref a) ∧ CellAt K F H a c ∧ F a = none

structure Corr (K : PySem.W.Frag) (F H : Hp) (σ : St) (sl : Sl) : Prop where
  ff : Same F H
  len : σ.length = sl.length
  ok : ∀ (i : Nat) (x : Option SV), sl[i]? = some x → SlotOk K F H (σ[i]?.join) x
  dj : ∀ (i j : Nat) (a : Addr), OwnAt σ sl i a → OwnAt σ sl j a → i = j

/-- what may have changed: F grows, H changes at O alone -/
structure Ext (O : Addr → Prop) (F H F' H' : Hp) : Prop where
  ff : Same F F'
  hh : ∀ b o, H b = some o → ¬ O b → H' b = some o
  th : ∀ b, H' b = none → H b = none
  nw : ∀ b, F' b ≠ none → F b ≠ none ∨ H b = none ∨ O b
theorem Ext.refl (O : Addr → Prop) (F H : Hp) : Ext O F H F H := ⟨Same.refl F, fun _ _ e _ => e, fun _ e => e, fun b h => .inl h⟩
theorem Ext.trans {O O1 : Addr → Prop} {F H F1 H1 F2 H2 : Hp} (x : Ext O F H F1 H1) (y : Ext O1 F1 H1 F2 H2) (h : ∀ b, O1 b → O b ∨ H b = none) : Ext O F H F2 H2 := by
  refine ⟨x.ff.trans y.ff, fun b o e n => y.hh b o (x.hh b o e n) fun z => ?_, fun b e => x.th b (y.th b e), fun b z => ?_⟩
  · rcases h b z with q | q
    · exact n q
    · rw [q] at e; cases e
  · rcases y.nw b z with q | q | q
    · exact x.nw b q
    · exact .inr (.inl (x.th b q))
    · rcases h b q with r | r
      · exact .inr (.inr r)
      · exact .inr (.inl r)
theorem Ext.weak {O O' : Addr → Prop} {F H F' H' : Hp} (x : Ext O F H F' H') (h : ∀ b, O b → O' b) : Ext O' F H F' H' :=
  ⟨x.ff, fun b o e n => x.hh b o e fun z => n (h b z), x.th, fun b z => (x.nw b z).imp id fun q => q.imp id (h b)⟩
/-- nothing changed, something may be new -/
structure Grow (F H F' H' : Hp) : Prop where
  ff : Same F F'
  hh : Same H H'
  fh : Same F' H'
  nw : ∀ b, F' b ≠ none → F b ≠ none ∨ H b = none
theorem Grow.ext {O : Addr → Prop} {F H F' H' : Hp} (g : Grow F H F' H') : Ext O F H F' H' := ⟨g.ff, fun b o e _ => g.hh b o e, fun b e => g.hh.free e, fun b z => (g.nw b z).imp id .inl⟩
theorem Grow.refl {F H : Hp} (h : Same F H) : Grow F H F H := ⟨Same.refl _, Same.refl _, h, fun b z => .inl z⟩
theorem Grow.trans {F H F1 H1 F2 H2 : Hp} (x : Grow F H F1 H1) (y : Grow F1 H1 F2 H2) : Grow F H F2 H2 := by
  refine ⟨x.ff.trans y.ff, x.hh.trans y.hh, y.fh, fun b z => ?_⟩
  rcases y.nw b z with q | q
  · exact x.nw b q
  · exact .inr (x.hh.free q)
theorem none_of_not {F : Hp} {a : Addr} (h : ¬ F a ≠ none) : F a = none := by
  cases e : F a with
  | none => rfl
  | some o => exact absurd (by rw [e]; exact fun z => nomatch z) h
theorem Grow.free {F H F' H' : Hp} (g : Grow F H F' H') {a : Addr} {o : HO} (h : H a = some o) (n : F a = none) : F' a = none :=
  none_of_not fun z => by
    rcases g.nw a z with q | q
    · exact q n
    · rw [q] at h; cases h
/-- a new object that is let go into the data -/
theorem grow_new {F H : Hp} {p : Addr} {o : HO} (s : Same F H) (h : H p = none) : Grow F H (upd F p o) (upd H p o) := by
  have hF : F p = none := s.free h
  have up : ∀ {A : Hp}, A p = none → Same A (upd A p o) := fun {A} hA b x e => by rw [upd_ne (ne_of_none e hA)]; exact e
  refine ⟨up hF, up h, fun b x e => ?_, fun b z => ?_⟩
  · by_cases hb : b = p
    · subst hb; rw [upd_same] at e ⊢; exact e
    · rw [upd_ne hb] at e ⊢; exact s b x e
  · by_cases hb : b = p
    · subst hb; exact .inr h
    · rw [upd_ne hb] at z; exact .inl z
/-- a new object that stays open -/
theorem grow_open {F H : Hp} {p : Addr} {o : HO} (s : Same F H) (h : H p = none) : Grow F H F (upd H p o) := by
  have up : Same H (upd H p o) := fun b x e => by rw [upd_ne (ne_of_none e h)]; exact e
  exact ⟨Same.refl _, up, s.trans up, fun b z => .inl z⟩

section
variable {K : PySem.W.Frag} {F H F' H' : Hp} {σ : St} {sl : Sl}
theorem Corr.free (c : Corr K F H σ sl) {a : Addr} (h : Owns σ sl a) : F a = none ∧ ∃ o, H a = some o := by
  obtain ⟨i, x, cl, e1, e2, e3⟩ := h
  have q := c.ok i _ e1
  rw [e3] at q
  cases x with
  | val d => cases e2
  | bval d => cases e2
  | own c' =>
    obtain ⟨b, z, ca, fa⟩ := q
    cases z
    exact ⟨fa, ca.ex⟩
  | bref c' =>
    obtain ⟨b, z, ca, fa⟩ := q
    cases z
    exact ⟨fa, ca.ex⟩
theorem SlotOk.mono {v : Option V} {x : Option SV} (h : SlotOk K F H v x) (f : Same F F') (e : ∀ a o, v = some (.ref a) → F a = none → H a = some o → H' a = some o) (fr : ∀ a, v = some (.ref a) → F a = none → (∃ o, H a = some o) → F' a = none) : SlotOk K F' H' v x := by
  cases x with
  | none => exact True.intro
  | some x =>
    cases x with
    | val d => obtain ⟨y, h1, h2⟩ := h; exact ⟨y, h1, h2.mono f⟩
    | bval d =>
      obtain ⟨y, h1, h2, h3⟩ := h
      refine ⟨y, h1, h2.mono f, fun z => h3 (f.free z)⟩
    | own c => obtain ⟨a, h1, h2, h3⟩ := h; exact ⟨a, h1, h2.mono f fun o => e a o h1 h3, fr a h1 h3 h2.ex⟩
    | bref c => obtain ⟨a, h1, h2, h3⟩ := h; exact ⟨a, h1, h2.mono f fun o => e a o h1 h3, fr a h1 h3 h2.ex⟩
theorem Corr.grow (c : Corr K F H σ sl) (g : Grow F H F' H') : Corr K F' H' σ sl :=
  ⟨g.fh, c.len, fun i x e => (c.ok i x e).mono g.ff (fun a o _ _ q => g.hh a o q) fun a _ n ⟨o, q⟩ => g.free q n, c.dj⟩
end
end RF
set_option maxRecDepth 100000
namespace RF
open PySem PySem.Spec L2
/-! ### results -/
inductive RV where
  | v (d : D) | n (c : Cell) | s (i : Nat)
structure Exn where
  c : Nat
  fs : List D
inductive ERes where
  | ok (r : RV) (sl : Sl) | exc (x : Exn) (sl : Sl) | fail
inductive ARes where
  | ok (rs : List RV) (sl : Sl) | exc (x : Exn) (sl : Sl) | fail
inductive TRes where
  | ok (b : Bool) (sl : Sl) | exc (x : Exn) (sl : Sl) | fail
inductive IRes where
  | ok (ds : List D) (sl : Sl) | exc (x : Exn) (sl : Sl) | fail
inductive SRes where
  | nx (sl : Sl) | rt (r : RV) (sl : Sl) | bk (sl : Sl) | ct (sl : Sl) | exc (x : Exn) (sl : Sl) | fail
inductive CRes where
  | ok (r : RV) (fin : Sl) | exc (x : Exn) (fin : Sl) | fail
abbrev Den := Sl → ERes
abbrev ADen := Sl → ARes
abbrev TDen := Sl → TRes
abbrev IDen := Sl → IRes
abbrev SDen := Sl → SRes
abbrev FT := Nat → List SV → CRes
structure GDen where
  run : D → Sl → Option Sl
  tch : List Nat

/-- how exceptions lie in the heap: the class's value, the own dict -/
abbrev XRel := Value → Option Addr → Hp → Exn → Prop

def RVR (K : PySem.W.Frag) (H0 F H : Hp) (σ : St) (sl : Sl) (v : V) : RV → Prop
  | .v d => Rep K F v d
  | .n c => ∃ a, v = .ref a ∧ CellAt K F H a c ∧ F a = none ∧ ¬ Owns σ sl a ∧ H0 a = none
  | .s i => σ[i]? = some (some v)
def RVRL (K : PySem.W.Frag) (H0 F H : Hp) (σ : St) (sl : Sl) : List V → List RV → Prop
  | [], [] => True
  | v :: vs, r :: rs => RVR K H0 F H σ sl v r ∧ RVRL K H0 F H σ sl vs rs
  | _, _ => False

structure Step (K : PySem.W.Frag) (F H : Hp) (σ : St) (sl : Sl) (F' H' : Hp) (σ' : St) (sl' : Sl) : Prop where
  ext : Ext (Owns σ sl) F H F' H'
  cor : Corr K F' H' σ' sl'
  own : ∀ a, Owns σ' sl' a → Owns σ sl a ∨ H a = none
  pin : ∀ (i : Nat) (x : SV), sl[i]? = some (some x) → (∃ c, x = .bref c) ∨ (∃ d, x = .bval d) → σ'[i]? = σ[i]? ∧ ∃ y, sl'[i]? = some (some y) ∧ ((∃ c, y = .bref c) ∨ ∃ d, y = .bval d)
section
variable {K : PySem.W.Frag} {F H F1 H1 F2 H2 : Hp} {σ σ1 σ2 : St} {sl sl1 sl2 : Sl}
theorem Step.refl (c : Corr K F H σ sl) : Step K F H σ sl F H σ sl := ⟨Ext.refl _ _ _, c, fun _ h => .inl h, fun i x e h => ⟨rfl, x, e, h⟩⟩
theorem Step.trans (x : Step K F H σ sl F1 H1 σ1 sl1) (y : Step K F1 H1 σ1 sl1 F2 H2 σ2 sl2) : Step K F H σ sl F2 H2 σ2 sl2 := by
  refine ⟨x.ext.trans y.ext x.own, y.cor, fun a h => ?_, fun i z e h => ?_⟩
  · rcases y.own a h with q | q
    · exact x.own a q
    · exact .inr (x.ext.th a q)
  · obtain ⟨e1, z1, e2, h2⟩ := x.pin i z e h
    obtain ⟨e3, z3, e4, h4⟩ := y.pin i z1 e2 h2
    exact ⟨e3.trans e1, z3, e4, h4⟩
theorem Step.grow (x : Step K F H σ sl F1 H1 σ1 sl1) (g : Grow F1 H1 F2 H2) : Step K F H σ sl F2 H2 σ1 sl1 :=
  x.trans ⟨g.ext, x.cor.grow g, fun _ h => .inl h, fun i z e h => ⟨rfl, z, e, h⟩⟩
end

/-- a slot of the def's own holds the open thing at a -/
def OwnK (σ : St) (sl : Sl) (a : Addr) : Prop := ∃ (i : Nat) (c : Cell), sl[i]? = some (some (SV.own c)) ∧ σ[i]? = some (some (V.ref a))
theorem Step.ownK {K : PySem.W.Frag} {F H F1 H1 : Hp} {σ σ1 : St} {sl sl1 : Sl} (st : Step K F H σ sl F1 H1 σ1 sl1) {a : Addr} (h : OwnK σ1 sl1 a) : OwnK σ sl a ∨ H a = none := by
  obtain ⟨i, c, e1, e2⟩ := h
  have o1 : OwnAt σ1 sl1 i a := ⟨_, c, e1, rfl, e2⟩
  rcases st.own a ⟨i, o1⟩ with ⟨j, x, c', f1, f2, f3⟩ | q
  · cases x with
    | val d => cases f2
    | bval d => cases f2
    | own d => exact .inl ⟨j, d, f1, f3⟩
    | bref d =>
      exfalso
      obtain ⟨g1, y, g2, g3⟩ := st.pin j _ f1 (.inl ⟨d, rfl⟩)
      have g4 : σ1[j]? = some (some (.ref a)) := g1.trans f3
      rcases g3 with ⟨z, rfl⟩ | ⟨z, rfl⟩
      · have e := st.cor.dj i j a o1 ⟨_, z, g2, rfl, g4⟩
        subst e
        rw [e1] at g2; cases g2
      · have k := st.cor.ok j _ g2
        rw [show σ1[j]?.join = some (.ref a) by rw [g4]; rfl] at k
        obtain ⟨b, k1, _, k2⟩ := k
        cases k1
        have k3 := st.cor.ok i _ e1
        rw [show σ1[i]?.join = some (.ref a) by rw [e2]; rfl] at k3
        obtain ⟨b, k4, _, k5⟩ := k3
        cases k4
        exact k2 k5
  · exact .inr q
/-- what a def hands back -/
def RVT (K : PySem.W.Frag) (H0 : Hp) (σ0 : St) (sl0 : Sl) (F H : Hp) (σ : St) (sl : Sl) (v : V) : RV → Prop
  | .v d => Rep K F v d
  | .n c => ∃ a, v = .ref a ∧ CellAt K F H a c ∧ F a = none ∧ ¬ Owns σ sl a ∧ (H0 a = none ∨ OwnK σ0 sl0 a)
  | .s _ => False

/-! ### what is wanted behind -/
section
variable (K : PySem.W.Frag) (xr : XRel) (wx : WX)
def PostE (F H : Hp) (σ : St) (sl : Sl) (res : ERes) (Q : VK) : Prop := match res with
  | .ok r sl' => ∀ F' H' v, Step K F H σ sl F' H' σ sl' → RVR K H F' H' σ sl' v r → Q v H'
  | .exc x sl' => ∀ F' H' cls d, Step K F H σ sl F' H' σ sl' → xr cls d H' x → wx cls d σ H'
  | .fail => False
def PostA (F H : Hp) (σ : St) (sl : Sl) (res : ARes) (Q : List V → Hp → Prop) : Prop := match res with
  | .ok rs sl' => ∀ F' H' vs, Step K F H σ sl F' H' σ sl' → RVRL K H F' H' σ sl' vs rs → Q vs H'
  | .exc x sl' => ∀ F' H' cls d, Step K F H σ sl F' H' σ sl' → xr cls d H' x → wx cls d σ H'
  | .fail => False
def PostT (F H : Hp) (σ : St) (sl : Sl) (res : TRes) (Q : Bool → Hp → Prop) : Prop := match res with
  | .ok b sl' => ∀ F' H', Step K F H σ sl F' H' σ sl' → Q b H'
  | .exc x sl' => ∀ F' H' cls d, Step K F H σ sl F' H' σ sl' → xr cls d H' x → wx cls d σ H'
  | .fail => False
/-- an iterator yields this data -/
def ItOk (F : Hp) (J : It) (items : List D) : Prop := ∀ F1 H1, Same F F1 → Same F1 H1 → ∀ i : Nat,
  (i < items.length → J.go i H1) ∧ (items.length = i → J.stop i H1) ∧ ∀ x H' d, J.yld i H1 x H' → items[i]? = some d → ∃ F2, Grow F1 H1 F2 H' ∧ Rep K F2 x d
def PostI (F H : Hp) (σ : St) (sl : Sl) (res : IRes) (Q : It → Hp → Prop) : Prop := match res with
  | .ok ds sl' => ∀ F' H' J, Step K F H σ sl F' H' σ sl' → ItOk K F' J ds → Q J H'
  | .exc x sl' => ∀ F' H' cls d, Step K F H σ sl F' H' σ sl' → xr cls d H' x → wx cls d σ H'
  | .fail => False
def PostG (F H : Hp) (σ : St) (sl : Sl) (tch : List Nat) (res : Option Sl) (Q : St → Hp → Prop) : Prop := match res with
  | some sl' => ∀ F' H' σ', Step K F H σ sl F' H' σ' sl' → σ'.length = σ.length → (∀ i : Nat, i ∉ tch → σ'[i]? = σ[i]? ∧ sl'[i]? = sl[i]?) → Q σ' H'
  | none => False
def PostS (F H : Hp) (σ : St) (sl : Sl) (res : SRes) (E : Ends) : Prop := match res with
  | .nx sl' => ∀ F' H' σ', Step K F H σ sl F' H' σ' sl' → E.nx σ' H'
  | .bk sl' => ∀ F' H' σ', Step K F H σ sl F' H' σ' sl' → E.bk σ' H'
  | .ct sl' => ∀ F' H' σ', Step K F H σ sl F' H' σ' sl' → E.ct σ' H'
  | .rt r sl' => ∀ F' H' σ' v, Step K F H σ sl F' H' σ' sl' → RVT K H σ sl F' H' σ' sl' v r → E.rt v H'
  | .exc x sl' => ∀ F' H' σ' cls d, Step K F H σ sl F' H' σ' sl' → xr cls d H' x → wx cls d σ' H'
  | .fail => False
/-- the readings -/
def rdE (d : Den) : TE := fun σ H Q => ∃ F sl, Corr K F H σ sl ∧ PostE K xr wx F H σ sl (d sl) Q
def rdA (d : ADen) : TA := fun σ H Q => ∃ F sl, Corr K F H σ sl ∧ PostA K xr wx F H σ sl (d sl) Q
def rdT (d : TDen) : TT := fun σ H Q => ∃ F sl, Corr K F H σ sl ∧ PostT K xr wx F H σ sl (d sl) Q
def rdI (d : IDen) : TI := fun σ H Q => ∃ F sl, Corr K F H σ sl ∧ PostI K xr wx F H σ sl (d sl) Q
def rdS (d : SDen) : TS := fun E σ H => ∃ F sl, Corr K F H σ sl ∧ PostS K xr wx F H σ sl (d sl) E
def rdG (g : GDen) : TG := fun v σ H Q => ∃ F sl d, Corr K F H σ sl ∧ Rep K F v d ∧ PostG K F H σ sl g.tch (g.run d sl) Q
end

/-! ### weakening -/
section
variable {X : Cx}
theorem PE.imp {e : Expr} {t t' : TE} (h : PE X e t) (w : ∀ σ H Q, t' σ H Q → t σ H Q) : PE X e t' := ⟨fun pins s σ H Q I q => h.run pins s σ H Q I (w _ _ _ q)⟩
theorem PT.imp {e : Expr} {t t' : TT} (h : PT X e t) (w : ∀ σ H Q, t' σ H Q → t σ H Q) : PT X e t' := ⟨fun pins s σ H Q I q => h.run pins s σ H Q I (w _ _ _ q)⟩
theorem PW.imp {e : Expr} {t t' : TT} (h : PW X e t) (w : ∀ σ H Q, t' σ H Q → t σ H Q) : PW X e t' := ⟨fun wh pins s σ H Q I q => h.run wh pins s σ H Q I (w _ _ _ q)⟩
theorem PA.imp {e : List Expr} {t t' : TA} (h : PA X e t) (w : ∀ σ H Q, t' σ H Q → t σ H Q) : PA X e t' := ⟨fun p pins s σ H Q I q => h.run p pins s σ H Q I (w _ _ _ q)⟩
theorem PS.imp {e : Stmt} {t t' : TS} (h : PS X e t) (w : ∀ D σ H, t' D σ H → t D σ H) : PS X e t' := ⟨fun pins s σ H D I q => h.run pins s σ H D I (w _ _ _ q)⟩
theorem PSs.imp {e : List Stmt} {t t' : TS} (h : PSs X e t) (w : ∀ D σ H, t' D σ H → t D σ H) : PSs X e t' := ⟨fun pins s σ H D I q => h.run pins s σ H D I (w _ _ _ q)⟩
theorem PG.imp {e : Expr} {t t' : TG} (h : PG X e t) (w : ∀ v σ H Q, t' v σ H Q → t v σ H Q) : PG X e t' := ⟨fun pins s σ H v u Q I r q => h.run pins s σ H v u Q I r (w _ _ _ _ q)⟩
theorem PGs.imp {e : List Expr} {t t' : TGs} (h : PGs X e t) (w : ∀ v σ H Q, t' v σ H Q → t v σ H Q) : PGs X e t' := ⟨fun pins s σ H v u Q I r q => h.run pins s σ H v u Q I r (w _ _ _ _ q)⟩
theorem PI.imp {tg e : Expr} {t t' : TI} (h : PI X tg e t) (w : ∀ σ H Q, t' σ H Q → t σ H Q) : PI X tg e t' := ⟨fun pins s σ H R I q => h.run pins s σ H R I (w _ _ _ q)⟩
theorem OpR.imp {f : Value → Value → Sem Value} {r r' : R2} (h : OpR X f r) (w : ∀ x y H Q, r' x y H Q → r x y H Q) : OpR X f r' := fun pins s σ H x y v u Q I a b q => h pins s σ H x y v u Q I a b (w _ _ _ _ q)
theorem OpR.pick {f : Value → Value → Sem Value} {r' : R2} (w : ∀ x y H Q, r' x y H Q → ∃ r, OpR X f r ∧ r x y H Q) : OpR X f r' := fun pins s σ H x y v u Q I a b q => by
  obtain ⟨r, h, q2⟩ := w _ _ _ _ q
  exact h pins s σ H x y v u Q I a b q2
theorem CallR.pick {f : Value} {r' : List V → Hp → VK → Prop} (w : ∀ x H Q, r' x H Q → ∃ r, CallR X f r ∧ r x H Q) : CallR X f r' := fun pins s σ H x v Q I a q => by
  obtain ⟨r, h, q2⟩ := w _ _ _ q
  exact h pins s σ H x v Q I a q2
end

/-! ### reading handles, letting go -/
@[simp] def opd : RV → RV
  | .n c => .v c.d
  | r => r
@[simp] def rdS1 : Option (Option SV) → Option D
  | some (some (.val d)) => some d
  | some (some (.bval d)) => some d
  | some (some (.own c)) => some c.d
  | some (some (.bref c)) => some c.d
  | _ => none
@[simp] def rd (r : RV) (sl : Sl) : Option D := match r with
  | .v d => some d
  | .n c => some c.d
  | .s i => rdS1 sl[i]?
@[simp] def rds : List RV → Sl → Option (List D)
  | [], _ => some []
  | r :: rs, sl => (rd r sl).bind fun d => (rds rs sl).bind fun ds => some (d :: ds)
@[simp] def frz (r : RV) (sl : Sl) : Option (D × Sl) := match r with
  | .v d => some (d, sl)
  | .n c => some (c.d, sl)
  | .s i => match sl[i]? with
    | some (some (.val d)) => some (d, sl)
    | some (some (.bval d)) => some (d, sl)
    | some (some (.own c)) => some (c.d, sl.set i (some (.val c.d)))
    | some (some (.bref c)) => some (c.d, sl.set i (some (.bval c.d)))
    | _ => none
@[simp] def frzs : List RV → Sl → Option (List D × Sl)
  | [], sl => some ([], sl)
  | r :: rs, sl => (frz r sl).bind fun p => (frzs rs p.2).bind fun q => some (p.1 :: q.1, q.2)

/-- an operand: its elements are data, itself may stand open -/
def RepO (K : PySem.W.Frag) (F H : Hp) (v : V) (d : D) : Prop := Rep K F v d ∨ ∃ a c, v = .ref a ∧ d = Cell.d c ∧ CellAt K F H a c
def RepOL (K : PySem.W.Frag) (F H : Hp) : List V → List D → Prop
  | [], [] => True
  | v :: vs, d :: ds => RepO K F H v d ∧ RepOL K F H vs ds
  | _, _ => False
section
variable {K : PySem.W.Frag} {F H F' H' H0 : Hp} {σ : St} {sl sl' : Sl} {v : V} {d : D}
theorem RepO.rep (s : Same F H) (h : RepO K F H v d) : Rep K H v d := by
  rcases h with h | ⟨a, c, rfl, rfl, h⟩
  · exact h.mono s
  · exact h.rep s fun _ e => e
theorem RepO.lst {ds : List D} (s : Same F H) (h : RepO K F H v (.lst ds)) : ∃ a xs, v = .ref a ∧ Rd H a (.lst xs) ∧ RepL K F xs ds := by
  rcases h with h | ⟨a, c, rfl, e, h⟩
  · cases h with
    | lst h r => exact ⟨_, _, rfl, sameR s h, r⟩
  · cases c with
    | lst es =>
      obtain ⟨xs, h1, h2⟩ := h
      cases e
      exact ⟨_, _, rfl, .inl h1, h2⟩
theorem RepO.data (h : RepO K F H v d) (n : ∀ ds, d ≠ .lst ds) : Rep K F v d := by
  rcases h with h | ⟨a, c, rfl, e, h⟩
  · exact h
  · cases c with
    | lst es => exact absurd e (n es)
theorem RepO.int {i : Int} (h : RepO K F H v (.int i)) : v = .int i := by
  cases h.data fun _ z => nomatch z
  rfl
theorem RepO.str {i : Str} (h : RepO K F H v (.str i)) : v = .str i := by
  cases h.data fun _ z => nomatch z
  rfl
theorem RepO.bl {i : Bool} (h : RepO K F H v (.bl i)) : v = .bl i := by
  cases h.data fun _ z => nomatch z
  rfl
theorem RepO.non (h : RepO K F H v .non) : v = .non := by
  cases h.data fun _ z => nomatch z
  rfl
theorem RepO.tup {ds : List D} (h : RepO K F H v (.tup ds)) : ∃ a xs, v = .ref a ∧ SqT K F a xs ∧ RepL K F xs ds := by
  have k := h.data fun _ z => nomatch z
  clear h
  cases k with
  | tup h r => exact ⟨_, _, rfl, h, r⟩

theorem slot_join {i : Nat} {x : Option V} (e : σ[i]? = some x) : σ[i]?.join = x := by rw [e]; rfl
theorem join_some {i : Nat} {x : V} (e : σ[i]?.join = some x) : σ[i]? = some (some x) := by
  cases q : σ[i]? with
  | none => rw [q] at e; cases e
  | some y =>
    rw [q] at e
    have e2 : y = some x := e
    rw [e2]
theorem Corr.at (c : Corr K F H σ sl) {i : Nat} {x : SV} (e : sl[i]? = some (some x)) : SlotOk K F H (σ[i]?.join) (some x) := c.ok i _ e

theorem rd_ok {r : RV} (c : Corr K F H σ sl) (h : RVR K H0 F H σ sl v r) (e : rd r sl = some d) : RepO K F H v d := by
  cases r with
  | v d' => cases e; exact .inl h
  | n cl =>
    cases e
    obtain ⟨a, rfl, ca, _⟩ := h
    exact .inr ⟨a, cl, rfl, rfl, ca⟩
  | s i =>
    have h : σ[i]? = some (some v) := h
    have e : rdS1 sl[i]? = some d := e
    cases q : sl[i]? with
    | none => rw [q] at e; cases e
    | some x =>
      cases x with
      | none => rw [q] at e; cases e
      | some x =>
        have k := c.at q
        rw [slot_join h] at k
        rw [q] at e
        cases x with
        | val d' =>
          cases e
          obtain ⟨y, z, k⟩ := k
          cases z
          exact .inl k
        | bval d' =>
          cases e
          obtain ⟨y, z, k, _⟩ := k
          cases z
          exact .inl k
        | own cl =>
          cases e
          obtain ⟨a, z, k, _⟩ := k
          cases z
          exact .inr ⟨a, cl, rfl, rfl, k⟩
        | bref cl =>
          cases e
          obtain ⟨a, z, k, _⟩ := k
          cases z
          exact .inr ⟨a, cl, rfl, rfl, k⟩
theorem rds_ok : ∀ {rs : List RV} {vs : List V} {ds : List D}, Corr K F H σ sl → RVRL K H0 F H σ sl vs rs → rds rs sl = some ds → RepOL K F H vs ds
  | [], [], _, _, _, e => by cases e; exact True.intro
  | [], _ :: _, _, _, h, _ => h.elim
  | _ :: _, [], _, _, h, _ => h.elim
  | r :: rs, v :: vs, ds, c, h, e => by
    unfold rds at e
    cases q : rd r sl with
    | none => rw [q] at e; cases e
    | some d =>
      rw [q] at e
      have e : ((rds rs sl).bind fun ds => some (d :: ds)) = some ds := e
      cases q2 : rds rs sl with
      | none => rw [q2] at e; cases e
      | some es =>
        rw [q2] at e
        cases e
        exact ⟨rd_ok c h.1 q, rds_ok c h.2 q2⟩


theorem same_up {a : Addr} {o : HO} (h : F a = none) : Same F (upd F a o) := fun b x e => by rw [upd_ne (ne_of_none e h)]; exact e
theorem slot_up {a : Addr} {o : HO} {x : Option SV} {y : Option V} (h : SlotOk K F H y x) (hF : F a = none) (n : ∀ z c b, x = some z → z.open? = some c → y = some (.ref b) → b ≠ a) : SlotOk K (upd F a o) H y x := by
  cases x with
  | none => exact True.intro
  | some x =>
    cases x with
    | val d => obtain ⟨y, h1, h2⟩ := h; exact ⟨y, h1, h2.mono (same_up hF)⟩
    | bval d =>
      obtain ⟨y, h1, h2, h3⟩ := h
      exact ⟨y, h1, h2.mono (same_up hF), fun z => h3 ((same_up hF).free z)⟩
    | own c =>
      obtain ⟨b, h1, h2, h3⟩ := h
      exact ⟨b, h1, h2.mono (same_up hF) fun _ e => e, by rw [upd_ne (n _ c b rfl rfl h1)]; exact h3⟩
    | bref c =>
      obtain ⟨b, h1, h2, h3⟩ := h
      exact ⟨b, h1, h2.mono (same_up hF) fun _ e => e, by rw [upd_ne (n _ c b rfl rfl h1)]; exact h3⟩
theorem up_in {a : Addr} {o : HO} (s : Same F H) (h : H a = some o) : Same (upd F a o) H := fun b x e => by
  by_cases hb : b = a
  · subst hb; rw [upd_same] at e; cases e; exact h
  · rw [upd_ne hb] at e; exact s b x e
/-- an open thing that no slot holds becomes data -/
theorem freeze_n {a : Addr} {cl : Cell} {F0 : Hp} {σ0 : St} {sl0 : Sl} (st : Step K F0 H0 σ0 sl0 F H σ sl) (h : CellAt K F H a cl) (hF : F a = none) (no : ¬ Owns σ sl a) (h0 : H0 a = none) :
    ∃ F', Step K F0 H0 σ0 sl0 F' H σ sl ∧ Rep K F' (.ref a) cl.d ∧ Same F F' ∧ ∀ b, b ≠ a → F' b = F b := by
  obtain ⟨o, eo⟩ := h.ex
  refine ⟨upd F a o, ⟨⟨st.ext.ff.trans (same_up hF), st.ext.hh, st.ext.th, fun b z => ?_⟩, ⟨up_in st.cor.ff eo, st.cor.len, fun i x e => ?_, st.cor.dj⟩, st.own, st.pin⟩, ?_, same_up hF, fun b hb => upd_ne hb⟩
  · by_cases hb : b = a
    · subst hb; exact .inr (.inl h0)
    · rw [upd_ne hb] at z; exact st.ext.nw b z
  · refine slot_up (st.cor.ok i x e) hF fun z c b e1 e2 e3 e4 => no ?_
    subst e1 e4
    exact ⟨i, z, c, e, e2, join_some e3⟩
  · exact h.rep (same_up hF) fun o' e => by rw [upd_same]; rw [eo] at e; exact e
theorem own_set {i : Nat} {x : SV} {j : Nat} {b : Addr} (hx : x.open? = none) (h : OwnAt σ (sl.set i (some x)) j b) : OwnAt σ sl j b ∧ j ≠ i := by
  obtain ⟨y, c, e1, e2, e3⟩ := h
  by_cases hj : i = j
  · subst hj
    by_cases hl : i < sl.length
    · rw [List.getElem?_set_self hl] at e1; cases e1; rw [hx] at e2; cases e2
    · rw [List.getElem?_eq_none (by simpa using hl)] at e1; cases e1
  · rw [List.getElem?_set_ne hj] at e1
    exact ⟨⟨y, c, e1, e2, e3⟩, fun z => hj z.symm⟩
/-- a slot's open thing becomes data -/
theorem freeze_s {i : Nat} {x y : SV} {cl : Cell} {F0 : Hp} {σ0 : St} {sl0 : Sl} (st : Step K F0 H0 σ0 sl0 F H σ sl) (e : sl[i]? = some (some x)) (ho : x.open? = some cl) (h : σ[i]? = some (some v))
    (hy : (x = .own cl ∧ y = .val cl.d) ∨ (x = .bref cl ∧ y = .bval cl.d)) :
    ∃ F', Step K F0 H0 σ0 sl0 F' H σ (sl.set i (some y)) ∧ Rep K F' v cl.d ∧ Same F F' := by
  have k := st.cor.at e
  rw [slot_join h] at k
  have k2 : ∃ a, v = .ref a ∧ CellAt K F H a cl ∧ F a = none := by
    rcases hy with ⟨rfl, _⟩ | ⟨rfl, _⟩
    · obtain ⟨a, z, k⟩ := k; cases z; exact ⟨a, rfl, k⟩
    · obtain ⟨a, z, k⟩ := k; cases z; exact ⟨a, rfl, k⟩
  obtain ⟨a, rfl, ca, hF⟩ := k2
  obtain ⟨o, eo⟩ := ca.ex
  have hyo : y.open? = none := by rcases hy with ⟨_, rfl⟩ | ⟨_, rfl⟩ <;> rfl
  have hi : i < sl.length := (List.getElem?_eq_some_iff.mp e).1
  have me : OwnAt σ sl i a := ⟨x, cl, e, ho, h⟩
  have rp : Rep K (upd F a o) (.ref a) cl.d := ca.rep (same_up hF) fun o' q => by rw [upd_same]; rw [eo] at q; exact q
  refine ⟨upd F a o, st.trans ⟨⟨same_up hF, fun b x e _ => e, fun _ e => e, fun b z => ?_⟩, ⟨up_in st.cor.ff eo, by rw [List.length_set]; exact st.cor.len, fun j z q => ?_, fun j l b h1 h2 => st.cor.dj j l b (own_set hyo h1).1 (own_set hyo h2).1⟩, fun b z => ?_, fun j z q hz => ⟨rfl, ?_⟩⟩, rp, same_up hF⟩
  · by_cases hb : b = a
    · subst hb; exact .inr (.inr ⟨i, me⟩)
    · rw [upd_ne hb] at z; exact .inl z
  · by_cases hj : i = j
    · subst hj
      rw [List.getElem?_set_self hi] at q; cases q
      rcases hy with ⟨_, rfl⟩ | ⟨_, rfl⟩
      · exact ⟨_, slot_join h, rp⟩
      · exact ⟨_, slot_join h, rp, by rw [upd_same]; exact fun z => nomatch z⟩
    · rw [List.getElem?_set_ne hj] at q
      refine slot_up (st.cor.ok j z q) hF fun w c b e1 e2 e3 e4 => hj ?_
      subst e1 e4
      exact st.cor.dj i j b me ⟨w, c, q, e2, join_some e3⟩
  · obtain ⟨j, q⟩ := z
    exact .inl ⟨j, (own_set hyo q).1⟩
  · by_cases hj : i = j
    · subst hj
      rw [List.getElem?_set_self hi]
      rw [e] at q; cases q
      rcases hy with ⟨rfl, rfl⟩ | ⟨rfl, rfl⟩
      · rcases hz with ⟨c, z⟩ | ⟨c, z⟩ <;> cases z
      · exact ⟨_, rfl, .inr ⟨_, rfl⟩⟩
    · rw [List.getElem?_set_ne hj]
      exact ⟨z, q, hz⟩

theorem frz_ok {r : RV} {F0 : Hp} {sl0 : Sl} (st : Step K F0 H0 σ sl0 F H σ sl) (h : RVR K H0 F H σ sl v r) (e : frz r sl = some (d, sl')) :
    ∃ F', Step K F0 H0 σ sl0 F' H σ sl' ∧ Rep K F' v d ∧ Same F F' := by
  cases r with
  | v d' => cases e; exact ⟨F, st, h, Same.refl F⟩
  | n cl =>
    cases e
    obtain ⟨a, rfl, ca, hF, no, h0⟩ := h
    obtain ⟨F', s', rp, sm, _⟩ := freeze_n st ca hF no h0
    exact ⟨F', s', rp, sm⟩
  | s i =>
    have h : σ[i]? = some (some v) := h
    have e : (match sl[i]? with
      | some (some (.val d)) => some (d, sl)
      | some (some (.bval d)) => some (d, sl)
      | some (some (.own c)) => some (c.d, sl.set i (some (.val c.d)))
      | some (some (.bref c)) => some (c.d, sl.set i (some (.bval c.d)))
      | _ => none) = some (d, sl') := e
    cases q : sl[i]? with
    | none => rw [q] at e; cases e
    | some x =>
      cases x with
      | none => rw [q] at e; cases e
      | some x =>
        have k := st.cor.at q
        rw [slot_join h] at k
        rw [q] at e
        cases x with
        | val d' =>
          cases e
          obtain ⟨y, z, k⟩ := k
          cases z
          exact ⟨F, st, k, Same.refl F⟩
        | bval d' =>
          cases e
          obtain ⟨y, z, k, _⟩ := k
          cases z
          exact ⟨F, st, k, Same.refl F⟩
        | own cl => cases e; exact freeze_s st q rfl h (.inl ⟨rfl, rfl⟩)
        | bref cl => cases e; exact freeze_s st q rfl h (.inr ⟨rfl, rfl⟩)
theorem opd_ok {r : RV} {F0 : Hp} {sl0 : Sl} (st : Step K F0 H0 σ sl0 F H σ sl) (h : RVR K H0 F H σ sl v r) :
    ∃ F', Step K F0 H0 σ sl0 F' H σ sl ∧ RVR K H0 F' H σ sl v (opd r) ∧ Same F F' := by
  cases r with
  | v d' => exact ⟨F, st, h, Same.refl F⟩
  | s i => exact ⟨F, st, h, Same.refl F⟩
  | n cl =>
    obtain ⟨a, rfl, ca, hF, no, h0⟩ := h
    obtain ⟨F', s', rp, sm, _⟩ := freeze_n st ca hF no h0
    exact ⟨F', s', rp, sm⟩
/-- a handle or data stays what it was -/
theorem RVR.keep {r : RV} {H1 F1 : Hp} {sl1 : Sl} {H0' : Hp} (h : RVR K H0 F H σ sl v (opd r)) (s : Same F F1) : RVR K H0' F1 H1 σ sl1 v (opd r) := by
  cases r with
  | v d' => exact Rep.mono s h
  | s i => exact h
  | n cl => exact Rep.mono s (show Rep K F v cl.d from h)
end
end RF
set_option maxRecDepth 100000
namespace RF
open PySem PySem.Spec L2
/-! ### the denotations' pieces -/
@[simp] def ofO (r : Option RV) (sl : Sl) : ERes := match r with
  | some (.v d) => .ok (.v d) sl
  | some (.n c) => .ok (.n c) sl
  | _ => .fail
namespace C
def const (d : D) : Den := fun sl => .ok (.v d) sl
def var (i : Nat) : Den := fun sl => match sl[i]? with
  | some (some (.val d)) => .ok (.v d) sl
  | some (some (.bval d)) => .ok (.v d) sl
  | some (some (.own _)) => .ok (.s i) sl
  | some (some (.bref _)) => .ok (.s i) sl
  | _ => .fail
def bin (f : D → D → Option RV) (a b : Den) : Den := fun sl => match a sl with
  | .ok r1 sl1 => (match b sl1 with
    | .ok r2 sl2 => (match rd (opd r1) sl2, rd (opd r2) sl2 with
      | some d, some e => ofO (f d e) sl2
      | _, _ => .fail)
    | .exc x s => .exc x s
    | .fail => .fail)
  | .exc x s => .exc x s
  | .fail => .fail
def un (f : D → Option RV) (a : Den) : Den := fun sl => match a sl with
  | .ok r1 sl1 => (match rd (opd r1) sl1 with
    | some d => ofO (f d) sl1
    | none => .fail)
  | .exc x s => .exc x s
  | .fail => .fail
def anil : ADen := fun sl => .ok [] sl
def acons (a : Den) (b : ADen) : ADen := fun sl => match a sl with
  | .ok r sl1 => (match b sl1 with
    | .ok rs sl2 => .ok (opd r :: rs) sl2
    | .exc x s => .exc x s
    | .fail => .fail)
  | .exc x s => .exc x s
  | .fail => .fail
def call (f : List D → Option RV) (a : ADen) : Den := fun sl => match a sl with
  | .ok rs sl1 => (match rds rs sl1 with
    | some ds => ofO (f ds) sl1
    | none => .fail)
  | .exc x s => .exc x s
  | .fail => .fail
def tup (a : ADen) : Den := fun sl => match a sl with
  | .ok rs sl1 => (match frzs rs sl1 with
    | some (ds, sl2) => if ds.length ≤ 1000 then .ok (.v (.tup ds)) sl2 else .fail
    | none => .fail)
  | .exc x s => .exc x s
  | .fail => .fail
def lst (a : ADen) : Den := fun sl => match a sl with
  | .ok rs sl1 => (match frzs rs sl1 with
    | some (ds, sl2) => if ds.length ≤ 1000 then .ok (.n (.lst ds)) sl2 else .fail
    | none => .fail)
  | .exc x s => .exc x s
  | .fail => .fail
def tv (a : Den) : TDen := fun sl => match a sl with
  | .ok (.v (.bl b)) sl1 => .ok b sl1
  | .exc x s => .exc x s
  | _ => .fail
@[simp] def truD : D → Option Bool
  | .non => some false
  | .bl b => some b
  | .int i => some (i != 0)
  | .str s => if s.length ≤ 16777216 then some ((s.length : Int) != 0) else none
  | .tup ds => some (!ds.isEmpty)
  | .lst ds => some (!ds.isEmpty)
  | _ => none
def tru (a : Den) : TDen := fun sl => match a sl with
  | .ok r sl1 => (match (rd (opd r) sl1).bind truD with
    | some b => .ok b sl1
    | none => .fail)
  | .exc x s => .exc x s
  | .fail => .fail
def tand (a b : TDen) : TDen := fun sl => match a sl with
  | .ok c sl1 => if c = true then b sl1 else .ok false sl1
  | .exc x s => .exc x s
  | .fail => .fail
def tor (a b : TDen) : TDen := fun sl => match a sl with
  | .ok c sl1 => if c = true then .ok true sl1 else b sl1
  | .exc x s => .exc x s
  | .fail => .fail
def tnot (a : TDen) : TDen := fun sl => match a sl with
  | .ok c sl1 => .ok (!c) sl1
  | .exc x s => .exc x s
  | .fail => .fail
def vnot (a : Den) : Den := fun sl => match a sl with
  | .ok r sl1 => (match (rd (opd r) sl1).bind truD with
    | some b => .ok (.v (.bl (!b))) sl1
    | none => .fail)
  | .exc x s => .exc x s
  | .fail => .fail
def vand (a b : Den) : Den := fun sl => match a sl with
  | .ok r sl1 => (match (rd r sl1).bind truD with
    | some k => if k = true then b sl1 else .ok r sl1
    | none => .fail)
  | .exc x s => .exc x s
  | .fail => .fail
def vor (a b : Den) : Den := fun sl => match a sl with
  | .ok r sl1 => (match (rd r sl1).bind truD with
    | some k => if k = true then .ok r sl1 else b sl1
    | none => .fail)
  | .exc x s => .exc x s
  | .fail => .fail
def ite (t : TDen) (a b : Den) : Den := fun sl => match t sl with
  | .ok c sl1 => if c = true then a sl1 else b sl1
  | .exc x s => .exc x s
  | .fail => .fail
/-- a op b op' c -/
def chain (f g : D → D → Option RV) (a b c : Den) : Den := fun sl => match a sl with
  | .ok r1 sl1 => (match b sl1 with
    | .ok r2 sl2 => (match rd (opd r1) sl2, rd (opd r2) sl2 with
      | some d, some e => (match f d e with
        | some (.v (.bl true)) => (match c sl2 with
          | .ok r3 sl3 => (match rd (opd r2) sl3, rd (opd r3) sl3 with
            | some e', some h => ofO (g e' h) sl3
            | _, _ => .fail)
          | .exc x s => .exc x s
          | .fail => .fail)
        | some (.v (.bl false)) => .ok (.v (.bl false)) sl2
        | _ => .fail)
      | _, _ => .fail)
    | .exc x s => .exc x s
    | .fail => .fail)
  | .exc x s => .exc x s
  | .fail => .fail
end C

/-! ### the operators' readings -/
def PostO (K : PySem.W.Frag) (F H : Hp) (r : Option RV) (Q : VK) : Prop := match r with
  | some (.v d) => ∀ F' H' v, Grow F H F' H' → Rep K F' v d → Q v H'
  | some (.n c) => ∀ F' H' p, Grow F H F' H' → H p = none → F' p = none → CellAt K F' H' p c → Q (.ref p) H'
  | _ => False
def rO1 (K : PySem.W.Frag) (f : D → Option RV) : V → Hp → VK → Prop := fun x H Q => ∃ F d, Same F H ∧ RepO K F H x d ∧ PostO K F H (f d) Q
def rO2 (K : PySem.W.Frag) (f : D → D → Option RV) : R2 := fun x y H Q => ∃ F d e, Same F H ∧ RepO K F H x d ∧ RepO K F H y e ∧ PostO K F H (f d e) Q
def rON (K : PySem.W.Frag) (f : List D → Option RV) : List V → Hp → VK → Prop := fun xs H Q => ∃ F ds, Same F H ∧ RepOL K F H xs ds ∧ PostO K F H (f ds) Q
section
variable {K : PySem.W.Frag} {xr : XRel} {wx : WX} {F H F' H' : Hp} {σ : St} {sl sl' : Sl} {v : V} {d : D}
theorem fin_O {r : Option RV} {Q : VK} (st : Step K F H σ sl F' H' σ sl') (post : PostE K xr wx F H σ sl (ofO r sl') Q) : PostO K F' H' r Q := by
  cases r with
  | none => exact post.elim
  | some r =>
    cases r with
    | v d => exact fun F2 H2 v g rp => post F2 H2 v (st.grow g) rp
    | n c =>
      refine fun F2 H2 p g np fp ca => post F2 H2 (.ref p) (st.grow g) ⟨p, rfl, ca, fp, fun z => ?_, st.ext.th p np⟩
      obtain ⟨o, e⟩ := (st.cor.free z).2
      rw [np] at e; cases e
    | s i => exact post.elim
/-- data that stands already -/
theorem PostO.dat (s : Same F H) {Q : VK} (p : PostO K F H (some (.v d)) Q) (h : Rep K F v d) : Q v H := p F H v (Grow.refl s) h
theorem PostO.tup {ds : List D} {xs : List V} {a : Addr} (s : Same F H) {Q : VK} (p : PostO K F H (some (.v (.tup ds))) Q) (h : RepL K F xs ds) (n : H a = none) : Q (.ref a) (upd H a (.tup xs)) :=
  p _ _ _ (grow_new s n) (.tup (.inl (.inl upd_same)) (h.mono (same_up (s.free n))))
theorem PostO.lst {ds : List D} {xs : List V} {a : Addr} (s : Same F H) {Q : VK} (p : PostO K F H (some (.n (.lst ds))) Q) (h : RepL K F xs ds) (n : H a = none) : Q (.ref a) (upd H a (.lst xs)) :=
  p _ _ _ (grow_open s n) n (s.free n) ⟨xs, upd_same, h⟩

theorem two_ok {f : D → D → Option RV} {da db : Den} {Q : VK} (h : rdE K xr wx (C.bin f da db) σ H Q) : tOp (rO2 K f) (rdE K xr wx da) (rdE K xr wx db) σ H Q := by
  obtain ⟨F, sl, cor, post⟩ := h
  refine ⟨F, sl, cor, ?_⟩
  unfold C.bin at post
  cases e1 : da sl with
  | fail => rw [e1] at post; exact post.elim
  | exc x s => rw [e1] at post; exact post
  | ok r1 sl1 =>
    rw [e1] at post
    intro F1 H1 v1 st1 rv1
    obtain ⟨F1', st1', rv1', _⟩ := opd_ok st1 rv1
    refine ⟨F1', sl1, st1'.cor, ?_⟩
    simp only at post
    cases e2 : db sl1 with
    | fail => rw [e2] at post; exact post.elim
    | exc x s =>
      rw [e2] at post
      exact fun F2 H2 cls d st2 hx => post F2 H2 cls d (st1'.trans st2) hx
    | ok r2 sl2 =>
      rw [e2] at post
      simp only at post
      intro F2 H2 v2 st2 rv2
      obtain ⟨F2', st2', rv2', _⟩ := opd_ok st2 rv2
      cases e3 : rd (opd r1) sl2 with
      | none => rw [e3] at post; exact post.elim
      | some d =>
        cases e4 : rd (opd r2) sl2 with
        | none => rw [e3, e4] at post; exact post.elim
        | some e =>
          rw [e3, e4] at post
          exact ⟨F2', d, e, st2'.cor.ff, rd_ok (H0 := H) st2'.cor (rv1'.keep st2'.ext.ff) e3, rd_ok st2'.cor rv2' e4, fin_O (st1'.trans st2') post⟩
theorem one_ok {f : D → Option RV} {da : Den} {Q : VK} (h : rdE K xr wx (C.un f da) σ H Q) : tUn (rO1 K f) (rdE K xr wx da) σ H Q := by
  obtain ⟨F, sl, cor, post⟩ := h
  refine ⟨F, sl, cor, ?_⟩
  unfold C.un at post
  cases e1 : da sl with
  | fail => rw [e1] at post; exact post.elim
  | exc x s => rw [e1] at post; exact post
  | ok r1 sl1 =>
    rw [e1] at post
    intro F1 H1 v1 st1 rv1
    obtain ⟨F1', st1', rv1', _⟩ := opd_ok st1 rv1
    simp only at post
    cases e3 : rd (opd r1) sl1 with
    | none => rw [e3] at post; exact post.elim
    | some d =>
      rw [e3] at post
      exact ⟨F1', d, st1'.cor.ff, rd_ok st1'.cor rv1' e3, fin_O st1' post⟩
theorem many_ok {f : List D → Option RV} {da : ADen} {Q : VK} (h : rdE K xr wx (C.call f da) σ H Q) : tCB (rON K f) (rdA K xr wx da) σ H Q := by
  obtain ⟨F, sl, cor, post⟩ := h
  refine ⟨F, sl, cor, ?_⟩
  unfold C.call at post
  cases e1 : da sl with
  | fail => rw [e1] at post; exact post.elim
  | exc x s => rw [e1] at post; exact post
  | ok rs sl1 =>
    rw [e1] at post
    intro F1 H1 vs st1 rv1
    simp only at post
    cases e3 : rds rs sl1 with
    | none => rw [e3] at post; exact post.elim
    | some ds =>
      rw [e3] at post
      exact ⟨F1, ds, st1.cor.ff, rds_ok st1.cor rv1 e3, fin_O st1 post⟩
end

/-! ### names, constants -/
section
variable {X : Cx} {xr : XRel} {wx : WX} {a b c e : Expr} {es : List Expr} {da db dc : Den} {pos : Pos}
theorem var_ok {i : Nat} (h : PE X e (tVar i)) : PE X e (rdE X.K xr wx (C.var i)) := PE.imp h fun σ H Q ⟨F, sl, cor, post⟩ => by
  unfold C.var at post
  cases q : sl[i]? with
  | none => rw [q] at post; exact post.elim
  | some x =>
    cases x with
    | none => rw [q] at post; exact post.elim
    | some x =>
      have k := cor.at q
      rw [q] at post
      cases x with
      | val d =>
        obtain ⟨v, z, r⟩ := k
        exact ⟨v, join_some z, post F H v (.refl cor) r⟩
      | bval d =>
        obtain ⟨a, z, r, _⟩ := k
        exact ⟨_, join_some z, post F H _ (.refl cor) r⟩
      | own cl =>
        obtain ⟨a, z, r, _⟩ := k
        exact ⟨_, join_some z, post F H _ (.refl cor) (join_some z)⟩
      | bref cl =>
        obtain ⟨a, z, r, _⟩ := k
        exact ⟨_, join_some z, post F H _ (.refl cor) (join_some z)⟩
theorem const_ok {v : V} {d : D} (h : PE X e (tC v)) (r : ∀ F, Rep X.K F v d) : PE X e (rdE X.K xr wx (C.const d)) := PE.imp h fun σ H Q ⟨F, sl, cor, post⟩ => post F H v (.refl cor) (r F)
theorem bin_ok {op : Operator} {f : D → D → Option RV} (ho : OpR X (binaryOp op) (rO2 X.K f)) (ha : PE X a (rdE X.K xr wx da)) (hb : PE X b (rdE X.K xr wx db)) : PE X (.BinOp a op b pos) (rdE X.K xr wx (C.bin f da db)) :=
  PE.imp (pe_op ho ha hb) fun σ H Q h => two_ok h
theorem un_ok {op : UnaryOp} {f : D → Option RV} (ho : UnR X (unaryOp op) (rO1 X.K f)) (ha : PE X a (rdE X.K xr wx da)) : PE X (.UnaryOp op a pos) (rdE X.K xr wx (C.un f da)) :=
  PE.imp (pe_un ho ha) fun σ H Q h => one_ok h
theorem cmp_ok {op : CmpOp} {f : D → D → Option RV} (ho : OpR X (compareOp op) (rO2 X.K f)) (ha : PE X a (rdE X.K xr wx da)) (hb : PE X b (rdE X.K xr wx db)) (hm : behindInMarks op b = false) : PE X (.Compare a [op] [b] pos) (rdE X.K xr wx (C.bin f da db)) :=
  PE.imp (pe_cmpR ho ha hb hm) fun σ H Q h => two_ok h
theorem tv_ok {d : Den} {σ : St} {H : Hp} {Q : Bool → Hp → Prop} {K : PySem.W.Frag} (h : rdT K xr wx (C.tv d) σ H Q) : rdE K xr wx d σ H fun x H' => ∃ k, x = .bl k ∧ Q k H' := by
  obtain ⟨F, sl, cor, post⟩ := h
  refine ⟨F, sl, cor, ?_⟩
  unfold C.tv at post
  cases e1 : d sl with
  | fail => rw [e1] at post; exact post.elim
  | exc x s => rw [e1] at post; exact post
  | ok r sl1 =>
    rw [e1] at post
    cases r with
    | v d =>
      cases d with
      | bl b =>
        intro F' H' v st rv
        have rv : Rep K F' v (.bl b) := rv
        cases rv
        exact ⟨b, rfl, post F' H' st⟩
      | _ => exact post.elim
    | n c => exact post.elim
    | s i => exact post.elim
theorem tcmp_ok {op : CmpOp} {f : D → D → Option RV} (ho : OpR X (compareOp op) (rO2 X.K f)) (ha : PE X a (rdE X.K xr wx da)) (hb : PE X b (rdE X.K xr wx db)) (hm : behindInMarks op b = false) : PT X (.Compare a [op] [b] pos) (rdT X.K xr wx (C.tv (C.bin f da db))) :=
  PT.imp (pt_cmpR ho ha hb hm) fun σ H Q h => two_ok (tv_ok h)
/-- a op b op' c -/
theorem chain2_ok {K : PySem.W.Frag} {f g : D → D → Option RV} {σ : St} {H : Hp} {Q : VK} (h : rdE K xr wx (C.chain f g da db dc) σ H Q) : tChain (rO2 K f) (rO2 K g) (rdE K xr wx da) (rdE K xr wx db) (rdE K xr wx dc) σ H Q := by
  obtain ⟨F, sl, cor, post⟩ := h
  refine ⟨F, sl, cor, ?_⟩
  unfold C.chain at post
  cases e1 : da sl with
  | fail => rw [e1] at post; exact post.elim
  | exc x s => rw [e1] at post; exact post
  | ok r1 sl1 =>
    rw [e1] at post
    intro F1 H1 v1 st1 rv1
    obtain ⟨F1', st1', rv1', _⟩ := opd_ok st1 rv1
    refine ⟨F1', sl1, st1'.cor, ?_⟩
    simp only at post
    cases e2 : db sl1 with
    | fail => rw [e2] at post; exact post.elim
    | exc x s =>
      rw [e2] at post
      exact fun F2 H2 cls d st2 hx => post F2 H2 cls d (st1'.trans st2) hx
    | ok r2 sl2 =>
      rw [e2] at post
      simp only at post
      intro F2 H2 v2 st2 rv2
      obtain ⟨F2', st2', rv2', _⟩ := opd_ok st2 rv2
      cases e3 : rd (opd r1) sl2 with
      | none => rw [e3] at post; exact post.elim
      | some d =>
        cases e4 : rd (opd r2) sl2 with
        | none => rw [e3, e4] at post; exact post.elim
        | some e =>
          rw [e3, e4] at post
          simp only at post
          have st12 := st1'.trans st2'
          refine ⟨F2', d, e, st2'.cor.ff, rd_ok (H0 := H) st2'.cor (rv1'.keep st2'.ext.ff) e3, rd_ok st2'.cor rv2' e4, ?_⟩
          cases e5 : f d e with
          | none => rw [e5] at post; exact post.elim
          | some r =>
            rw [e5] at post
            cases r with
            | n c => exact post.elim
            | s c => exact post.elim
            | v z =>
              cases z with
              | bl k =>
                intro F3 H3 v3 gr rp
                have rp : Rep K F3 v3 (.bl k) := rp
                cases rp
                refine ⟨k, rfl, ?_⟩
                have st3 := st12.grow gr
                cases k with
                | false => rw [if_neg Bool.false_ne_true]; exact post F3 H3 (.bl false) st3 (.bl false)
                | true =>
                  rw [if_pos rfl]
                  refine ⟨F3, sl2, st3.cor, ?_⟩
                  simp only at post
                  cases e6 : dc sl2 with
                  | fail => rw [e6] at post; exact post.elim
                  | exc x s =>
                    rw [e6] at post
                    exact fun F4 H4 cls d st4 hx => post F4 H4 cls d (st3.trans st4) hx
                  | ok r3 sl3 =>
                    rw [e6] at post
                    intro F4 H4 v4 st4 rv4
                    obtain ⟨F4', st4', rv4', _⟩ := opd_ok st4 rv4
                    simp only at post
                    cases e7 : rd (opd r2) sl3 with
                    | none => rw [e7] at post; exact post.elim
                    | some e' =>
                      cases e8 : rd (opd r3) sl3 with
                      | none => rw [e7, e8] at post; exact post.elim
                      | some h' =>
                        rw [e7, e8] at post
                        have keep2 : RVR K H F4' H4 σ sl3 v2 (opd r2) := rv2'.keep (gr.ff.trans st4'.ext.ff)
                        exact ⟨F4', e', h', st4'.cor.ff, rd_ok st4'.cor keep2 e7, rd_ok st4'.cor rv4' e8, fin_O (st3.trans st4') post⟩
              | _ => exact post.elim
theorem chain_ok {op op' : CmpOp} {f g : D → D → Option RV} (ho : OpR X (compareOp op) (rO2 X.K f)) (ho' : OpR X (compareOp op') (rO2 X.K g)) (ha : PE X a (rdE X.K xr wx da)) (hb : PE X b (rdE X.K xr wx db)) (hc : PE X c (rdE X.K xr wx dc)) (hm : lastMarks [op, op'] [b, c] = false) :
    PE X (.Compare a [op, op'] [b, c] pos) (rdE X.K xr wx (C.chain f g da db dc)) := PE.imp (pe_chain ho ho' ha hb hc hm) fun σ H Q h => chain2_ok h
theorem tchain_ok {op op' : CmpOp} {f g : D → D → Option RV} (ho : OpR X (compareOp op) (rO2 X.K f)) (ho' : OpR X (compareOp op') (rO2 X.K g)) (ha : PE X a (rdE X.K xr wx da)) (hb : PE X b (rdE X.K xr wx db)) (hc : PE X c (rdE X.K xr wx dc)) (hm : lastMarks [op, op'] [b, c] = false) :
    PT X (.Compare a [op, op'] [b, c] pos) (rdT X.K xr wx (C.tv (C.chain f g da db dc))) := PT.imp (pt_chain ho ho' ha hb hc hm) fun σ H Q h => chain2_ok (tv_ok h)

/-! ### truth -/
theorem truV {K : PySem.W.Frag} {F H : Hp} {v : V} {d : D} {k : Bool} (s : Same F H) (h : RepO K F H v d) (e : C.truD d = some k) : TruV K v H k := by
  cases d with
  | non => rw [h.non]; cases e; rfl
  | bl b => rw [h.bl]; cases e; rfl
  | int i => rw [h.int]; cases e; rfl
  | str z =>
    rw [h.str]
    have e : (if z.length ≤ 16777216 then some ((z.length : Int) != 0) else none) = some k := e
    split at e
    · rename_i hz
      cases e
      exact ⟨by rw [sizeLine_eq]; exact hz, rfl⟩
    · cases e
  | tup ds =>
    obtain ⟨a, xs, rfl, q, r⟩ := h.tup
    cases e
    refine .inr (.inl ⟨xs, sameT s q, ?_⟩)
    cases r <;> rfl
  | lst ds =>
    obtain ⟨a, xs, rfl, q, r⟩ := h.lst s
    cases e
    refine .inl ⟨xs, .inl q, ?_⟩
    cases r <;> rfl
  | _ => cases e
theorem tru1_ok {K : PySem.W.Frag} {σ : St} {H : Hp} {Q : Bool → Hp → Prop} (h : rdT K xr wx (C.tru da) σ H Q) : rdE K xr wx da σ H fun x H' => ∃ k, TruV K x H' k ∧ Q k H' := by
  obtain ⟨F, sl, cor, post⟩ := h
  refine ⟨F, sl, cor, ?_⟩
  unfold C.tru at post
  cases e1 : da sl with
  | fail => rw [e1] at post; exact post.elim
  | exc x s => rw [e1] at post; exact post
  | ok r sl1 =>
    rw [e1] at post
    simp only at post
    intro F1 H1 v1 st1 rv1
    obtain ⟨F1', st1', rv1', _⟩ := opd_ok st1 rv1
    cases e3 : rd (opd r) sl1 with
    | none => rw [e3] at post; exact post.elim
    | some d =>
      rw [e3] at post
      cases e4 : C.truD d with
      | none =>
        have post : PostT K xr wx F H σ sl (match C.truD d with | some b => .ok b sl1 | none => .fail) Q := post
        rw [e4] at post; exact post.elim
      | some k =>
        have post : PostT K xr wx F H σ sl (match C.truD d with | some b => .ok b sl1 | none => .fail) Q := post
        rw [e4] at post
        exact ⟨k, truV st1'.cor.ff (rd_ok st1'.cor rv1' e3) e4, post F1' H1 st1'⟩
theorem ttru_ok (ha : PE X a (rdE X.K xr wx da)) (he : ∀ whole, isTrue a X.env whole = (do let v ← whole; standAt a.pos; holding [v] (truthy v))) : PT X a (rdT X.K xr wx (C.tru da)) :=
  PT.imp (pt_truth ha he) fun σ H Q h => tru1_ok h
theorem vnot_ok (ha : PE X a (rdE X.K xr wx da)) : PE X (.UnaryOp .Not a pos) (rdE X.K xr wx (C.vnot da)) := PE.imp (pe_notT ha) fun σ H Q h => by
  refine tru1_ok (Q := fun k H' => Q (.bl (!k)) H') ?_
  obtain ⟨F, sl, cor, post⟩ := h
  refine ⟨F, sl, cor, ?_⟩
  unfold C.vnot at post
  unfold C.tru
  cases e1 : da sl with
  | fail => rw [e1] at post; exact post.elim
  | exc x s => rw [e1] at post; exact post
  | ok r sl1 =>
    rw [e1] at post
    simp only at post ⊢
    cases e3 : (rd (opd r) sl1).bind C.truD with
    | none => rw [e3] at post; exact post.elim
    | some b => rw [e3] at post; exact fun F' H' st => post F' H' (.bl (!b)) st (.bl (!b))
variable {ta tb : TDen} {rest : List Expr}
theorem tand1_ok (ha : PT X a (rdT X.K xr wx ta)) : PW X (.BoolOp .And [a] pos) (rdT X.K xr wx ta) := pw_and1 ha
theorem tor1_ok (ha : PT X a (rdT X.K xr wx ta)) : PW X (.BoolOp .Or [a] pos) (rdT X.K xr wx ta) := pw_or1 ha
theorem tand_ok (ha : PT X a (rdT X.K xr wx ta)) (hb : PW X (.BoolOp .And (b :: rest) pos) (rdT X.K xr wx tb)) : PW X (.BoolOp .And (a :: b :: rest) pos) (rdT X.K xr wx (C.tand ta tb)) := PW.imp (pw_and ha hb) fun σ H Q ⟨F, sl, cor, post⟩ => by
  refine ⟨F, sl, cor, ?_⟩
  unfold C.tand at post
  cases e1 : ta sl with
  | fail => rw [e1] at post; exact post.elim
  | exc x s => rw [e1] at post; exact post
  | ok k sl1 =>
    rw [e1] at post
    simp only at post
    intro F1 H1 st1
    cases k with
    | false => rw [if_neg Bool.false_ne_true] at post ⊢; exact post F1 H1 st1
    | true =>
      rw [if_pos rfl] at post ⊢
      refine ⟨F1, sl1, st1.cor, ?_⟩
      cases e2 : tb sl1 with
      | fail => rw [e2] at post; exact post.elim
      | exc x s => rw [e2] at post; exact fun F2 H2 cls d st2 hx => post F2 H2 cls d (st1.trans st2) hx
      | ok k2 sl2 => rw [e2] at post; exact fun F2 H2 st2 => post F2 H2 (st1.trans st2)
theorem tor_ok (ha : PT X a (rdT X.K xr wx ta)) (hb : PW X (.BoolOp .Or (b :: rest) pos) (rdT X.K xr wx tb)) : PW X (.BoolOp .Or (a :: b :: rest) pos) (rdT X.K xr wx (C.tor ta tb)) := PW.imp (pw_or ha hb) fun σ H Q ⟨F, sl, cor, post⟩ => by
  refine ⟨F, sl, cor, ?_⟩
  unfold C.tor at post
  cases e1 : ta sl with
  | fail => rw [e1] at post; exact post.elim
  | exc x s => rw [e1] at post; exact post
  | ok k sl1 =>
    rw [e1] at post
    simp only at post
    intro F1 H1 st1
    cases k with
    | true => rw [if_pos rfl] at post ⊢; exact post F1 H1 st1
    | false =>
      rw [if_neg Bool.false_ne_true] at post ⊢
      refine ⟨F1, sl1, st1.cor, ?_⟩
      cases e2 : tb sl1 with
      | fail => rw [e2] at post; exact post.elim
      | exc x s => rw [e2] at post; exact fun F2 H2 cls d st2 hx => post F2 H2 cls d (st1.trans st2) hx
      | ok k2 sl2 => rw [e2] at post; exact fun F2 H2 st2 => post F2 H2 (st1.trans st2)
theorem tnot_ok (ha : PT X a (rdT X.K xr wx ta)) : PT X (.UnaryOp .Not a pos) (rdT X.K xr wx (C.tnot ta)) := PT.imp (pt_not ha) fun σ H Q ⟨F, sl, cor, post⟩ => by
  refine ⟨F, sl, cor, ?_⟩
  unfold C.tnot at post
  cases e1 : ta sl with
  | fail => rw [e1] at post; exact post.elim
  | exc x s => rw [e1] at post; exact post
  | ok k sl1 => rw [e1] at post; exact post
/-- behind a step, what is wanted from there -/
theorem PostE.from {K : PySem.W.Frag} {F H F1 H1 : Hp} {σ : St} {sl sl1 : Sl} {res : ERes} {Q : VK} (st : Step K F H σ sl F1 H1 σ sl1) (post : PostE K xr wx F H σ sl res Q) : PostE K xr wx F1 H1 σ sl1 res Q := by
  cases res with
  | fail => exact post
  | exc x s => exact fun F2 H2 cls d st2 hx => post F2 H2 cls d (st.trans st2) hx
  | ok r s =>
    refine fun F2 H2 v st2 rv => post F2 H2 v (st.trans st2) ?_
    cases r with
    | v d => exact rv
    | s i => exact rv
    | n c =>
      obtain ⟨a, e, ca, hf, no, h0⟩ := rv
      exact ⟨a, e, ca, hf, no, st.ext.th a h0⟩
theorem PostA.from {K : PySem.W.Frag} {F H F1 H1 : Hp} {σ : St} {sl sl1 : Sl} {res : ARes} {Q : List V → Hp → Prop} (st : Step K F H σ sl F1 H1 σ sl1) (post : PostA K xr wx F H σ sl res Q) : PostA K xr wx F1 H1 σ sl1 res Q := by
  cases res with
  | fail => exact post
  | exc x s => exact fun F2 H2 cls d st2 hx => post F2 H2 cls d (st.trans st2) hx
  | ok rs s =>
    refine fun F2 H2 vs st2 rv => post F2 H2 vs (st.trans st2) ?_
    have up : ∀ {vs : List V} {rs : List RV}, RVRL K H1 F2 H2 σ s vs rs → RVRL K H F2 H2 σ s vs rs := fun {vs} => by
      induction vs with
      | nil => intro rs h; cases rs <;> exact h
      | cons v vs ih =>
        intro rs h
        cases rs with
        | nil => exact h
        | cons r rs =>
          refine ⟨?_, ih h.2⟩
          have h1 := h.1
          cases r with
          | v d => exact h1
          | s i => exact h1
          | n c =>
            obtain ⟨a, e, ca, hf, no, h0⟩ := h1
            exact ⟨a, e, ca, hf, no, st.ext.th a h0⟩
    exact up rv
theorem ite_ok {t : Expr} {td : TDen} (ht : PT X t (rdT X.K xr wx td)) (ha : PE X a (rdE X.K xr wx da)) (hb : PE X b (rdE X.K xr wx db)) : PE X (.IfExp t a b pos) (rdE X.K xr wx (C.ite td da db)) := PE.imp (pe_ifExp ht ha hb) fun σ H Q ⟨F, sl, cor, post⟩ => by
  refine ⟨F, sl, cor, ?_⟩
  unfold C.ite at post
  cases e1 : td sl with
  | fail => rw [e1] at post; exact post.elim
  | exc x s => rw [e1] at post; exact post
  | ok k sl1 =>
    rw [e1] at post
    simp only at post
    intro F1 H1 st1
    cases k with
    | true => rw [if_pos rfl] at post ⊢; exact ⟨F1, sl1, st1.cor, PostE.from st1 post⟩
    | false => rw [if_neg Bool.false_ne_true] at post ⊢; exact ⟨F1, sl1, st1.cor, PostE.from st1 post⟩
theorem vand_ok (ha : PE X a (rdE X.K xr wx da)) (hb : PE X (.BoolOp .And (b :: rest) pos) (rdE X.K xr wx db)) : PE X (.BoolOp .And (a :: b :: rest) pos) (rdE X.K xr wx (C.vand da db)) := PE.imp (pe_andT ha hb) fun σ H Q ⟨F, sl, cor, post⟩ => by
  refine ⟨F, sl, cor, ?_⟩
  unfold C.vand at post
  cases e1 : da sl with
  | fail => rw [e1] at post; exact post.elim
  | exc x s => rw [e1] at post; exact post
  | ok r sl1 =>
    rw [e1] at post
    simp only at post
    intro F1 H1 v1 st1 rv1
    cases e3 : rd r sl1 with
    | none => rw [e3] at post; exact post.elim
    | some d =>
      rw [e3] at post
      simp only [Option.bind_some] at post
      cases e4 : C.truD d with
      | none => rw [e4] at post; exact post.elim
      | some k =>
        rw [e4] at post
        simp only at post
        refine ⟨k, truV st1.cor.ff (rd_ok st1.cor rv1 e3) e4, ?_⟩
        cases k with
        | true => rw [if_pos rfl] at post ⊢; exact ⟨F1, sl1, st1.cor, PostE.from st1 post⟩
        | false => rw [if_neg Bool.false_ne_true] at post ⊢; exact post F1 H1 v1 st1 rv1
theorem vor_ok (ha : PE X a (rdE X.K xr wx da)) (hb : PE X (.BoolOp .Or (b :: rest) pos) (rdE X.K xr wx db)) : PE X (.BoolOp .Or (a :: b :: rest) pos) (rdE X.K xr wx (C.vor da db)) := PE.imp (pe_orT ha hb) fun σ H Q ⟨F, sl, cor, post⟩ => by
  refine ⟨F, sl, cor, ?_⟩
  unfold C.vor at post
  cases e1 : da sl with
  | fail => rw [e1] at post; exact post.elim
  | exc x s => rw [e1] at post; exact post
  | ok r sl1 =>
    rw [e1] at post
    simp only at post
    intro F1 H1 v1 st1 rv1
    cases e3 : rd r sl1 with
    | none => rw [e3] at post; exact post.elim
    | some d =>
      rw [e3] at post
      simp only [Option.bind_some] at post
      cases e4 : C.truD d with
      | none => rw [e4] at post; exact post.elim
      | some k =>
        rw [e4] at post
        simp only at post
        refine ⟨k, truV st1.cor.ff (rd_ok st1.cor rv1 e3) e4, ?_⟩
        cases k with
        | true => rw [if_pos rfl] at post ⊢; exact post F1 H1 v1 st1 rv1
        | false => rw [if_neg Bool.false_ne_true] at post ⊢; exact ⟨F1, sl1, st1.cor, PostE.from st1 post⟩
theorem vone_ok {op : PySem.BoolOp} (ha : PE X a (rdE X.K xr wx da)) : PE X (.BoolOp op [a] pos) (rdE X.K xr wx da) := pe_one ha

/-! ### arguments, displays -/
theorem anil_ok : PA X [] (rdA X.K xr wx C.anil) := PA.imp pa_nil fun σ H Q ⟨F, sl, cor, post⟩ => post F H [] (.refl cor) True.intro
theorem RVRL.keep {K : PySem.W.Frag} {H0 F H F1 H1 H0' : Hp} {σ : St} {sl sl1 : Sl} {v : V} {r : RV} {vs : List V} {rs : List RV} (h : RVR K H0 F H σ sl v (opd r)) (s : Same F F1) (hs : RVRL K H0' F1 H1 σ sl1 vs rs) : RVRL K H0' F1 H1 σ sl1 (v :: vs) (opd r :: rs) := ⟨h.keep s, hs⟩
theorem acons_ok {d : ADen} (ha : PE X a (rdE X.K xr wx da)) (hr : PA X es (rdA X.K xr wx d)) (hs : starEach (a :: es) X.env = (false, eval a X.env) :: starEach es X.env) : PA X (a :: es) (rdA X.K xr wx (C.acons da d)) := PA.imp (pa_cons ha hr hs) fun σ H Q ⟨F, sl, cor, post⟩ => by
  refine ⟨F, sl, cor, ?_⟩
  unfold C.acons at post
  cases e1 : da sl with
  | fail => rw [e1] at post; exact post.elim
  | exc x s => rw [e1] at post; exact post
  | ok r sl1 =>
    rw [e1] at post
    simp only at post
    intro F1 H1 v1 st1 rv1
    obtain ⟨F1', st1', rv1', _⟩ := opd_ok st1 rv1
    refine ⟨F1', sl1, st1'.cor, ?_⟩
    cases e2 : d sl1 with
    | fail => rw [e2] at post; exact post.elim
    | exc x s => rw [e2] at post; exact fun F2 H2 cls d st2 hx => post F2 H2 cls d (st1'.trans st2) hx
    | ok rs sl2 =>
      rw [e2] at post
      intro F2 H2 vs st2 rv2
      refine post F2 H2 (v1 :: vs) (st1'.trans st2) ⟨rv1'.keep st2.ext.ff, ?_⟩
      -- the rest, seen from the start
      have up : ∀ {vs : List V} {rs : List RV}, RVRL X.K H1 F2 H2 σ sl2 vs rs → RVRL X.K H F2 H2 σ sl2 vs rs := fun {vs} => by
        induction vs with
        | nil => intro rs h; cases rs <;> exact h
        | cons v vs ih =>
          intro rs h
          cases rs with
          | nil => exact h
          | cons r rs =>
            refine ⟨?_, ih h.2⟩
            have h1 := h.1
            cases r with
            | v d => exact h1
            | s i => exact h1
            | n c =>
              obtain ⟨a, e, ca, hf, no, h0⟩ := h1
              exact ⟨a, e, ca, hf, no, st1'.ext.th a h0⟩
      exact up rv2
theorem frzs_ok {K : PySem.W.Frag} {H0 : Hp} {σ : St} {F0 : Hp} {sl0 : Sl} : ∀ {rs : List RV} {vs : List V} {F H : Hp} {sl sl' : Sl} {ds : List D}, Step K F0 H0 σ sl0 F H σ sl → RVRL K H0 F H σ sl vs (rs.map opd) → frzs (rs.map opd) sl = some (ds, sl') →
    ∃ F', Step K F0 H0 σ sl0 F' H σ sl' ∧ RepL K F' vs ds ∧ Same F F'
  | [], [], F, H, sl, sl', ds, st, _, e => by cases e; exact ⟨F, st, .nil, Same.refl F⟩
  | [], _ :: _, _, _, _, _, _, _, h, _ => h.elim
  | _ :: _, [], _, _, _, _, _, _, h, _ => h.elim
  | r :: rs, v :: vs, F, H, sl, sl', ds, st, h, e => by
    have e : ((frz (opd r) sl).bind fun p => (frzs (rs.map opd) p.2).bind fun q => some (p.1 :: q.1, q.2)) = some (ds, sl') := e
    cases q : frz (opd r) sl with
    | none => rw [q] at e; cases e
    | some p =>
      obtain ⟨d, sl1⟩ := p
      rw [q] at e
      have e : ((frzs (rs.map opd) sl1).bind fun q => some (d :: q.1, q.2)) = some (ds, sl') := e
      obtain ⟨F1, st1, r1, s1⟩ := frz_ok st h.1 q
      cases q2 : frzs (rs.map opd) sl1 with
      | none => rw [q2] at e; cases e
      | some p2 =>
        obtain ⟨es, sl2⟩ := p2
        rw [q2] at e
        cases e
        have keepAll : ∀ {vs : List V} {rs : List RV}, RVRL K H0 F H σ sl vs (rs.map opd) → RVRL K H0 F1 H σ sl1 vs (rs.map opd) := fun {vs} => by
          induction vs with
          | nil => intro rs h; cases rs <;> exact h
          | cons v vs ih =>
            intro rs h
            cases rs with
            | nil => exact h
            | cons r rs => exact ⟨h.1.keep s1, ih h.2⟩
        obtain ⟨F2, st2, r2, s2⟩ := frzs_ok st1 (keepAll h.2) q2
        exact ⟨F2, st2, .cons (r1.mono s2) r2, s1.trans s2⟩
theorem opd_opd (r : RV) : opd (opd r) = opd r := by cases r <;> rfl
/-- an argument list's results are operands -/
def opds (d : ADen) : Prop := ∀ sl rs sl', d sl = .ok rs sl' → rs.map opd = rs
theorem opds_nil : opds C.anil := fun sl rs sl' h => by cases h; rfl
theorem opds_cons {d : ADen} (h : opds d) : opds (C.acons da d) := fun sl rs sl' q => by
  unfold C.acons at q
  cases e1 : da sl with
  | fail => rw [e1] at q; cases q
  | exc x s => rw [e1] at q; cases q
  | ok r sl1 =>
    rw [e1] at q
    simp only at q
    cases e2 : d sl1 with
    | fail => rw [e2] at q; cases q
    | exc x s => rw [e2] at q; cases q
    | ok rs2 sl2 =>
      rw [e2] at q
      cases q
      rw [List.map_cons, h _ _ _ e2, opd_opd]
theorem small1k {n : Nat} (h : n ≤ 1000) : n ≤ sizeLine := by rw [sizeLine_eq]; omega
theorem tup_ok {d : ADen} {k : Nat} (o : opds d) (ha : PA X es (rdA X.K xr wx d)) : PE X (.Tuple es k pos) (rdE X.K xr wx (C.tup d)) := PE.imp (pe_tup ha) fun σ H Q ⟨F, sl, cor, post⟩ => by
  refine ⟨F, sl, cor, ?_⟩
  unfold C.tup at post
  cases e1 : d sl with
  | fail => rw [e1] at post; exact post.elim
  | exc x s => rw [e1] at post; exact post
  | ok rs sl1 =>
    rw [e1] at post
    simp only at post
    intro F1 H1 vs st1 rv1
    rw [← o _ _ _ e1] at rv1 post
    cases e2 : frzs (rs.map opd) sl1 with
    | none => rw [e2] at post; exact post.elim
    | some p =>
      obtain ⟨ds, sl2⟩ := p
      rw [e2] at post
      simp only at post
      obtain ⟨F2, st2, r2, s2⟩ := frzs_ok st1 rv1 e2
      split at post
      · rename_i hz
        refine ⟨by rw [r2.length]; exact small1k hz, fun p np => ?_⟩
        exact post _ _ _ (st2.grow (grow_new st2.cor.ff np)) (.tup (.inl (.inl upd_same)) (r2.mono (same_up (st2.cor.ff.free np))))
      · exact post.elim
theorem lst_ok {d : ADen} (o : opds d) (ha : PA X es (rdA X.K xr wx d)) : PE X (.List es pos) (rdE X.K xr wx (C.lst d)) := PE.imp (pe_lst ha) fun σ H Q ⟨F, sl, cor, post⟩ => by
  refine ⟨F, sl, cor, ?_⟩
  unfold C.lst at post
  cases e1 : d sl with
  | fail => rw [e1] at post; exact post.elim
  | exc x s => rw [e1] at post; exact post
  | ok rs sl1 =>
    rw [e1] at post
    simp only at post
    intro F1 H1 vs st1 rv1
    rw [← o _ _ _ e1] at rv1 post
    cases e2 : frzs (rs.map opd) sl1 with
    | none => rw [e2] at post; exact post.elim
    | some p =>
      obtain ⟨ds, sl2⟩ := p
      rw [e2] at post
      simp only at post
      obtain ⟨F2, st2, r2, s2⟩ := frzs_ok st1 rv1 e2
      split at post
      · rename_i hz
        refine ⟨by rw [r2.length]; exact small1k hz, fun p np => ?_⟩
        refine post _ _ _ (st2.grow (grow_open st2.cor.ff np)) ⟨p, rfl, ⟨vs, upd_same, r2⟩, st2.cor.ff.free np, fun z => ?_, st2.ext.th p np⟩
        obtain ⟨o, e⟩ := (st2.cor.free z).2
        rw [np] at e; cases e
      · exact post.elim
theorem callB_ok {x : Str} {p : Pos} {id : String} {f : List D → Option RV} {d : ADen} (hc : CallR X (.builtin id) (rON X.K f)) (hg : Gl X x) (hm : X.mg x = none) (hv : bootBuiltins x = some (.builtin id)) (ha : PA X (e :: es) (rdA X.K xr wx d)) (hn : x ≠ "__name__") (hdb : (x == ("__debug__" : Str)) = false)
    (he : starEach (e :: es) X.env = (false, eval e X.env) :: starEach es X.env) (hpl : (backTo pos (starEach es X.env)).any (·.1) = false) : PE X (.Call (.Name x p) (e :: es) [] pos) (rdE X.K xr wx (C.call f d)) :=
  PE.imp (pe_callB hc hg hm hv ha hn hdb he hpl) fun σ H Q h => many_ok h
theorem callTy_ok {x : Str} {p : Pos} {T : String} {f : List D → Option RV} {d : ADen} (hc : CallR X (.type T) (rON X.K f)) (hg : Gl X x) (hm : X.mg x = none) (hv : bootBuiltins x = some (.type T)) (ha : PA X (e :: es) (rdA X.K xr wx d)) (hn : x ≠ "__name__") (hdb : (x == ("__debug__" : Str)) = false)
    (he : starEach (e :: es) X.env = (false, eval e X.env) :: starEach es X.env) (hpl : (backTo pos (starEach es X.env)).any (·.1) = false) : PE X (.Call (.Name x p) (e :: es) [] pos) (rdE X.K xr wx (C.call f d)) :=
  PE.imp (pe_callTy hc hg hm hv ha hn hdb he hpl) fun σ H Q h => many_ok h
theorem ix_ok {f : D → D → Option RV} (hr : IxR X (rO2 X.K f)) (ha : PE X a (rdE X.K xr wx da)) (hb : PE X b (rdE X.K xr wx db)) (hs : PlainIx b) : PE X (.Subscript a b pos) (rdE X.K xr wx (C.bin f da db)) := PE.imp (pe_ix hr ha hb hs) fun σ H Q h => two_ok h
end
end RF
set_option maxRecDepth 100000
namespace RF
open PySem PySem.Spec L2
/-! ### equality of data -/
mutual
@[simp] def D.eqv : D → D → Bool
  | .non, .non => true
  | .bl a, .bl b => a == b
  | .bl a, .int j => (if a then 1 else 0) == j
  | .int i, .bl b => i == (if b then 1 else 0)
  | .int i, .int j => i == j
  | .str x, .str y => x == y
  | .lst xs, .lst ys => D.eqvL xs ys
  | .tup xs, .tup ys => D.eqvL xs ys
  | _, _ => false
@[simp] def D.eqvL : List D → List D → Bool
  | [], [] => true
  | x :: xs, y :: ys => D.eqv x y && D.eqvL xs ys
  | _, _ => false
end
mutual
@[simp] def D.lay : Nat → D → Bool
  | _, .non => true
  | _, .bl _ => true
  | _, .int _ => true
  | _, .str s => PyData.strOk s
  | n + 1, .lst ds => D.layL n ds
  | n + 1, .tup ds => D.layL n ds
  | _, _ => false
@[simp] def D.layL : Nat → List D → Bool
  | _, [] => true
  | n, d :: ds => D.lay n d && D.layL n ds
end
mutual
def D.py : D → PyData
  | .non => .none
  | .bl b => .bool b
  | .int i => .int i
  | .str s => .str s
  | .tup ds => .tuple (D.pyL ds)
  | .lst ds => .list (D.pyL ds)
  | .obj _ _ => .none
  | .kls ds => .list (D.pyL ds)
def D.pyL : List D → List PyData
  | [] => []
  | d :: ds => D.py d :: D.pyL ds
end
mutual
theorem Rep.dp {K : PySem.W.Frag} {H : Hp} : ∀ {v : V} {d : D}, Rep K H v d → Dp K H v d.py
  | _, _, .non => .non
  | _, _, .bl b => .bl b
  | _, _, .int i => .int i
  | _, _, .str s => .str s
  | _, _, .tup h r => .tup h r.dp
  | _, _, .lst h r => .lst (.inl h) r.dp
  | _, _, .kls h r => .lst h r.dp
theorem RepL.dp {K : PySem.W.Frag} {H : Hp} : ∀ {vs : List V} {ds : List D}, RepL K H vs ds → DpAll K H vs (D.pyL ds)
  | _, _, .nil => .nil
  | _, _, .cons h r => .cons h.dp r.dp
end
mutual
theorem lay_py : ∀ (n : Nat) (d : D), d.lay n = true → d.py.canLay0 = true ∧ d.py.depth ≤ n
  | n, .non, h => by simp [D.py, PyData.canLay0, PyData.depth]
  | n, .bl b, h => by simp [D.py, PyData.canLay0, PyData.depth]
  | n, .int b, h => by simp [D.py, PyData.canLay0, PyData.depth]
  | n, .str b, h => by
    have h : PyData.strOk b = true := by cases n <;> simpa [D.lay] using h
    simp [D.py, PyData.canLay0, PyData.depth, h]
  | n + 1, .lst ds, h => by
    have h : D.layL n ds = true := by simpa [D.lay] using h
    obtain ⟨h1, h2⟩ := layL_py n ds h
    simp only [D.py, PyData.canLay0, PyData.depth]
    exact ⟨h1, by omega⟩
  | n + 1, .tup ds, h => by
    have h : D.layL n ds = true := by simpa [D.lay] using h
    obtain ⟨h1, h2⟩ := layL_py n ds h
    simp only [D.py, PyData.canLay0, PyData.depth]
    exact ⟨h1, by omega⟩
  | 0, .lst ds, h => by simp [D.lay] at h
  | 0, .tup ds, h => by simp [D.lay] at h
  | 0, .obj _ _, h => by simp [D.lay] at h
  | 0, .kls _, h => by simp [D.lay] at h
  | n + 1, .obj _ _, h => by simp [D.lay] at h
  | n + 1, .kls _, h => by simp [D.lay] at h
theorem layL_py : ∀ (n : Nat) (ds : List D), D.layL n ds = true → PyData.canLayAll0 (D.pyL ds) = true ∧ PyData.depthAll (D.pyL ds) ≤ n
  | n, [], h => by simp [D.pyL, PyData.canLayAll0, PyData.depthAll]
  | n, d :: ds, h => by
    have h : D.lay n d = true ∧ D.layL n ds = true := by simpa [D.layL] using h
    obtain ⟨h1, h2⟩ := lay_py n d h.1
    obtain ⟨h3, h4⟩ := layL_py n ds h.2
    simp only [D.pyL, PyData.canLayAll0, PyData.depthAll]
    exact ⟨by rw [h1, h3]; rfl, Nat.max_le.mpr ⟨h2, h4⟩⟩
end
theorem lay_shaped {n : Nat} {d : D} (h : d.lay n = true) (hn : n ≤ 64) : SeqAt.shaped d.py = true := by
  obtain ⟨h1, h2⟩ := lay_py n d h
  unfold SeqAt.shaped
  rw [h1, decide_eq_true (by omega)]
  rfl
mutual
theorem eqv_py : ∀ (n m : Nat) (d e : D), d.lay n = true → e.lay m = true → PyData.eqv d.py e.py = d.eqv e
  | n, m, d, e, h, k => by
    cases d with
    | obj c fs => cases n <;> simp [D.lay] at h
    | kls c => cases n <;> simp [D.lay] at h
    | lst ds =>
      cases n with
      | zero => simp [D.lay] at h
      | succ n =>
        cases e with
        | obj c fs => cases m <;> simp [D.lay] at k
        | kls c => cases m <;> simp [D.lay] at k
        | lst es =>
          cases m with
          | zero => simp [D.lay] at k
          | succ m =>
            simp only [D.py, PyData.eqv, D.eqv]
            exact eqvL_py n m ds es (by simpa [D.lay] using h) (by simpa [D.lay] using k)
        | _ => simp [D.py, PyData.eqv, D.eqv]
    | tup ds =>
      cases n with
      | zero => simp [D.lay] at h
      | succ n =>
        cases e with
        | obj c fs => cases m <;> simp [D.lay] at k
        | kls c => cases m <;> simp [D.lay] at k
        | tup es =>
          cases m with
          | zero => simp [D.lay] at k
          | succ m =>
            simp only [D.py, PyData.eqv, D.eqv]
            exact eqvL_py n m ds es (by simpa [D.lay] using h) (by simpa [D.lay] using k)
        | _ => simp [D.py, PyData.eqv, D.eqv]
    | _ =>
      cases e with
      | obj c fs => cases m <;> simp [D.lay] at k
      | kls c => cases m <;> simp [D.lay] at k
      | _ => simp [D.py, PyData.eqv, D.eqv]
theorem eqvL_py : ∀ (n m : Nat) (ds es : List D), D.layL n ds = true → D.layL m es = true → PyData.eqvAll (D.pyL ds) (D.pyL es) = D.eqvL ds es
  | n, m, [], [], h, k => by simp [D.pyL, PyData.eqvAll, D.eqvL]
  | n, m, [], e :: es, h, k => by simp [D.pyL, PyData.eqvAll, D.eqvL]
  | n, m, d :: ds, [], h, k => by simp [D.pyL, PyData.eqvAll, D.eqvL]
  | n, m, d :: ds, e :: es, h, k => by
    have h : D.lay n d = true ∧ D.layL n ds = true := by simpa [D.layL] using h
    have k : D.lay m e = true ∧ D.layL m es = true := by simpa [D.layL] using k
    simp only [D.pyL, PyData.eqvAll, D.eqvL]
    rw [eqv_py n m d e h.1 k.1, eqvL_py n m ds es h.2 k.2]
end

/-! ### the operators on data -/
def ixD (n : Nat) (i : Int) : Option Nat := if 0 ≤ i then (if i < n then some i.toNat else none) else if -(n : Int) ≤ i then some (i + n).toNat else none
def atD (ds : List D) (i : Int) : Option D := (ixD ds.length i).bind fun j => ds[j]?
def noneD : D → Bool
  | .non => true
  | _ => false
@[simp] def flatD : D → Bool
  | .non => true
  | .bl _ => true
  | .int _ => true
  | .str _ => true
  | _ => false
@[simp] def intsOf : List D → Option (List Int)
  | [] => some []
  | .int i :: ds => (intsOf ds).map (i :: ·)
  | _ :: _ => none
@[simp] def blsOf : List D → Option (List Bool)
  | [] => some []
  | .bl i :: ds => (blsOf ds).map (i :: ·)
  | _ :: _ => none
def maxL : List Int → Int
  | [] => 0
  | [i] => i
  | i :: is => max i (maxL is)
def minL : List Int → Int
  | [] => 0
  | [i] => i
  | i :: is => min i (minL is)
def insI (i : Int) : List Int → List Int
  | [] => [i]
  | j :: js => if i ≤ j then i :: j :: js else j :: insI i js
def sortI : List Int → List Int
  | [] => []
  | i :: is => insI i (sortI is)
namespace O
@[simp] def add : D → D → Option RV
  | .int i, .int j => some (.v (.int (i + j)))
  | .str a, .str b => if a.length + b.length ≤ 16777216 then some (.v (.str (a ++ b))) else none
  | .tup a, .tup b => if a.length + b.length ≤ 16777216 then some (.v (.tup (a ++ b))) else none
  | .lst a, .lst b => if a.length + b.length ≤ 16777216 then some (.n (.lst (a ++ b))) else none
  | _, _ => none
@[simp] def sub : D → D → Option RV
  | .int i, .int j => some (.v (.int (i - j)))
  | _, _ => none
@[simp] def mul : D → D → Option RV
  | .int i, .int j => if (-(2 ^ 64) < i ∧ i < 2 ^ 64) ∨ (-(2 ^ 64) < j ∧ j < 2 ^ 64) then some (.v (.int (i * j))) else none
  | .lst a, .int k => if -(2 ^ 63) ≤ k ∧ k < 2 ^ 63 ∧ a.length * k.toNat ≤ 16777216 then some (.n (.lst (List.replicate k.toNat a).flatten)) else none
  | _, _ => none
@[simp] def fdiv : D → D → Option RV
  | .int i, .int j => if 0 < j ∧ j < 1073741824 then some (.v (.int (i / j))) else none
  | _, _ => none
@[simp] def mod : D → D → Option RV
  | .int i, .int j => if 0 < j then some (.v (.int (i % j))) else none
  | _, _ => none
@[simp] def pow : D → D → Option RV
  | .int i, .int j => if 0 ≤ j ∧ j ≤ 1000000 ∧ i.natAbs < 2 ^ 64 then some (.v (.int (i ^ j.toNat))) else none
  | _, _ => none
@[simp] def neg : D → Option RV
  | .int i => some (.v (.int (-i)))
  | _ => none
@[simp] def lt : D → D → Option RV
  | .int i, .int j => some (.v (.bl (decide (i < j))))
  | _, _ => none
@[simp] def le : D → D → Option RV
  | .int i, .int j => some (.v (.bl (decide (i ≤ j))))
  | _, _ => none
@[simp] def gt : D → D → Option RV
  | .int i, .int j => some (.v (.bl (decide (j < i))))
  | _, _ => none
@[simp] def ge : D → D → Option RV
  | .int i, .int j => some (.v (.bl (decide (j ≤ i))))
  | _, _ => none
@[simp] def eq (d e : D) : Option RV := if (d.lay 9 && e.lay 9) = true then some (.v (.bl (d.eqv e))) else none
@[simp] def ne (d e : D) : Option RV := if (d.lay 9 && e.lay 9) = true then some (.v (.bl (!d.eqv e))) else none
@[simp] def isN : D → D → Option RV
  | d, .non => some (.v (.bl (noneD d)))
  | .bl a, .bl b => some (.v (.bl (decide (a = b))))
  | _, _ => none
@[simp] def notN : D → D → Option RV
  | d, .non => some (.v (.bl (!noneD d)))
  | .bl a, .bl b => some (.v (.bl (!decide (a = b))))
  | _, _ => none
@[simp] def isin (x : D) : D → Option RV
  | .lst ds => if (x.lay 9 && D.layL 8 ds) = true then some (.v (.bl (ds.any fun z => z.eqv x))) else none
  | .tup ds => if (flatD x && ds.all flatD) = true then some (.v (.bl (ds.any fun z => z.eqv x))) else none
  | _ => none
@[simp] def notin (x : D) : D → Option RV
  | .lst ds => if (x.lay 9 && D.layL 8 ds) = true then some (.v (.bl (!ds.any fun z => z.eqv x))) else none
  | .tup ds => if (flatD x && ds.all flatD) = true then some (.v (.bl (!ds.any fun z => z.eqv x))) else none
  | _ => none
@[simp] def ix : D → D → Option RV
  | .lst ds, .int i => (atD ds i).map fun d => .v d
  | .tup ds, .int i => (atD ds i).map fun d => .v d
  | _, _ => none
@[simp] def len : List D → Option RV
  | [.lst ds] => some (.v (.int ds.length))
  | [.tup ds] => some (.v (.int ds.length))
  | [.str s] => if s.length ≤ 16777216 then some (.v (.int s.length)) else none
  | _ => none
@[simp] def abs : List D → Option RV
  | [.int i] => some (.v (.int (if i < 0 then -i else i)))
  | _ => none
@[simp] def max2 : List D → Option RV
  | [.int i, .int j] => some (.v (.int (if j > i then j else i)))
  | [.lst ds] => (intsOf ds).bind fun ns => if 0 < ns.length then some (.v (.int (maxL ns))) else none
  | _ => none
@[simp] def min2 : List D → Option RV
  | [.int i, .int j] => some (.v (.int (if j < i then j else i)))
  | [.lst ds] => (intsOf ds).bind fun ns => if 0 < ns.length then some (.v (.int (minL ns))) else none
  | _ => none
@[simp] def sum : List D → Option RV
  | [.lst ds] => (intsOf ds).map fun ns => .v (.int ns.sum)
  | _ => none
@[simp] def sorted : List D → Option RV
  | [.lst ds] => (intsOf ds).map fun ns => .n (.lst ((sortI ns).map D.int))
  | _ => none
@[simp] def all : List D → Option RV
  | [.lst ds] => (blsOf ds).map fun ns => .v (.bl (ns.all id))
  | _ => none
@[simp] def any : List D → Option RV
  | [.lst ds] => (blsOf ds).map fun ns => .v (.bl (ns.any id))
  | _ => none
@[simp] def list : List D → Option RV
  | [.lst ds] => some (.n (.lst ds))
  | [.tup ds] => some (.n (.lst ds))
  | _ => none
@[simp] def tuple : List D → Option RV
  | [.lst ds] => some (.v (.tup ds))
  | [.tup ds] => some (.v (.tup ds))
  | _ => none
@[simp] def int : List D → Option RV
  | [.int i] => some (.v (.int i))
  | [.bl k] => some (.v (.int (if k then 1 else 0)))
  | _ => none
@[simp] def str : List D → Option RV
  | [.int i] => if i.natAbs.log2 < 1920 then some (.v (.str (toString i))) else none
  | _ => none
end O

theorem ints_of : ∀ {ds : List D} {ns : List Int}, intsOf ds = some ns → ds = ns.map D.int
  | [], _, h => by cases h; rfl
  | d :: ds, ns, h => by
    cases d with
    | int i =>
      have h : (intsOf ds).map (i :: ·) = some ns := h
      cases e : intsOf ds with
      | none => rw [e] at h; cases h
      | some ms => rw [e] at h; cases h; rw [ints_of e]; rfl
    | _ => cases h
theorem bls_of : ∀ {ds : List D} {ns : List Bool}, blsOf ds = some ns → ds = ns.map D.bl
  | [], _, h => by cases h; rfl
  | d :: ds, ns, h => by
    cases d with
    | bl i =>
      have h : (blsOf ds).map (i :: ·) = some ns := h
      cases e : blsOf ds with
      | none => rw [e] at h; cases h
      | some ms => rw [e] at h; cases h; rw [bls_of e]; rfl
    | _ => cases h
theorem maxL_max : ∀ {ns : List Int}, 0 < ns.length → maxL ns ∈ ns ∧ ∀ y ∈ ns, y ≤ maxL ns
  | [], h => by simp at h
  | [i], _ => by simp [maxL]
  | i :: j :: ns, _ => by
    obtain ⟨h1, h2⟩ := maxL_max (ns := j :: ns) (by simp)
    show max i (maxL (j :: ns)) ∈ i :: j :: ns ∧ ∀ y ∈ i :: j :: ns, y ≤ max i (maxL (j :: ns))
    refine ⟨?_, fun y hy => ?_⟩
    · by_cases h : i ≤ maxL (j :: ns)
      · rw [Int.max_eq_right h]; exact List.mem_cons_of_mem _ h1
      · rw [Int.max_eq_left (by omega)]; exact List.mem_cons_self
    · rcases List.mem_cons.mp hy with rfl | hy
      · exact Int.le_max_left _ _
      · exact Int.le_trans (h2 y hy) (Int.le_max_right _ _)
theorem minL_min : ∀ {ns : List Int}, 0 < ns.length → minL ns ∈ ns ∧ ∀ y ∈ ns, minL ns ≤ y
  | [], h => by simp at h
  | [i], _ => by simp [minL]
  | i :: j :: ns, _ => by
    obtain ⟨h1, h2⟩ := minL_min (ns := j :: ns) (by simp)
    show min i (minL (j :: ns)) ∈ i :: j :: ns ∧ ∀ y ∈ i :: j :: ns, min i (minL (j :: ns)) ≤ y
    refine ⟨?_, fun y hy => ?_⟩
    · by_cases h : i ≤ minL (j :: ns)
      · rw [Int.min_eq_left h]; exact List.mem_cons_self
      · rw [Int.min_eq_right (by omega)]; exact List.mem_cons_of_mem _ h1
    · rcases List.mem_cons.mp hy with rfl | hy
      · exact Int.min_le_left _ _
      · exact Int.le_trans (Int.min_le_right _ _) (h2 y hy)
theorem insI_perm (i : Int) : ∀ l : List Int, (insI i l).Perm (i :: l)
  | [] => List.Perm.refl _
  | j :: js => by
    unfold insI
    split
    · exact List.Perm.refl _
    · exact (List.Perm.cons j (insI_perm i js)).trans (List.Perm.swap i j js)
theorem insI_sorted (i : Int) : ∀ {l : List Int}, l.Pairwise (· ≤ ·) → (insI i l).Pairwise (· ≤ ·)
  | [], _ => by simp [insI]
  | j :: js, h => by
    unfold insI
    rw [List.pairwise_cons] at h
    split
    · rename_i hij
      rw [List.pairwise_cons]
      refine ⟨fun y hy => ?_, List.pairwise_cons.mpr h⟩
      rcases List.mem_cons.mp hy with rfl | hy
      · exact hij
      · exact Int.le_trans hij (h.1 y hy)
    · rename_i hij
      rw [List.pairwise_cons]
      refine ⟨fun y hy => ?_, insI_sorted i h.2⟩
      rcases List.mem_cons.mp ((insI_perm i js).mem_iff.mp hy) with rfl | hy
      · omega
      · exact h.1 y hy
theorem sortI_perm : ∀ l : List Int, (sortI l).Perm l
  | [] => List.Perm.refl _
  | i :: l => (insI_perm i (sortI l)).trans (List.Perm.cons i (sortI_perm l))
theorem sortI_sorted : ∀ l : List Int, (sortI l).Pairwise (· ≤ ·)
  | [] => List.Pairwise.nil
  | i :: l => insI_sorted i (sortI_sorted l)
theorem sorted_one : ∀ {a b : List Int}, a.Perm b → a.Pairwise (· ≤ ·) → b.Pairwise (· ≤ ·) → a = b
  | [], b, p, _, _ => (List.Perm.nil_eq p)
  | x :: a, [], p, _, _ => by have := p.length_eq; simp at this
  | x :: a, y :: b, p, ha, hb => by
    rw [List.pairwise_cons] at ha hb
    have hx : x ∈ y :: b := p.mem_iff.mp List.mem_cons_self
    have hy : y ∈ x :: a := p.mem_iff.mpr List.mem_cons_self
    have e : x = y := by
      rcases List.mem_cons.mp hx with h | h
      · exact h
      · rcases List.mem_cons.mp hy with k | k
        · exact k.symm
        · have h1 := hb.1 x h
          have h2 := ha.1 y k
          omega
    subst e
    rw [sorted_one (List.Perm.cons_inv p) ha.2 hb.2]

/-! ### their rules -/
section
variable {X : Cx}
theorem at_rep {K : PySem.W.Frag} {F : Hp} {xs : List V} {ds : List D} {i : Int} {d : D} (r : RepL K F xs ds) (e : atD ds i = some d) : ∃ v, atI xs i = some v ∧ Rep K F v d := by
  have hl := r.length
  unfold atD ixD at e
  unfold atI ixN
  rw [hl]
  cases q : (if 0 ≤ i then if i < (ds.length : Int) then some i.toNat else none else if -(ds.length : Int) ≤ i then some (i + ds.length).toNat else none) with
  | none => rw [q] at e; cases e
  | some j =>
    rw [q] at e
    exact r.getD (show ds[j]? = some d from e)

theorem o_add : OpR X (binaryOp .Add) (rO2 X.K O.add) := OpR.pick fun x y H Q ⟨F, d, e, s, hx, hy, q⟩ => by
  cases d with
  | int i =>
    cases e with
    | int j => exact ⟨_, op_add, i, j, hx.int, hy.int, q.dat s (.int _)⟩
    | _ => exact q.elim
  | str i =>
    cases e with
    | str j =>
      have q : PostO X.K F H (if i.length + j.length ≤ 16777216 then some (.v (.str (i ++ j))) else none) Q := q
      split at q
      · rename_i hz
        exact ⟨_, op_add_str, i, j, hx.str, hy.str, by rw [sizeLine_eq]; exact hz, q.dat s (.str _)⟩
      · exact q.elim
    | _ => exact q.elim
  | tup i =>
    cases e with
    | tup j =>
      have q : PostO X.K F H (if i.length + j.length ≤ 16777216 then some (.v (.tup (i ++ j))) else none) Q := q
      split at q
      · rename_i hz
        obtain ⟨a, xs, rfl, t1, r1⟩ := hx.tup
        obtain ⟨b, ys, rfl, t2, r2⟩ := hy.tup
        refine ⟨_, op_catA, a, b, xs, ys, rfl, rfl, sameT s t1, sameT s t2, by rw [sizeLine_eq, r1.length, r2.length]; exact hz, fun ex => ?_, fun nx ey => ?_, fun nx ny p np => q.tup s (r1.append r2) np⟩
        · subst ex
          cases r1
          exact q.dat s (.tup t2 r2)
        · subst ey
          cases r2
          rw [List.append_nil] at q
          exact q.dat s (.tup t1 r1)
      · exact q.elim
    | _ => exact q.elim
  | lst i =>
    cases e with
    | lst j =>
      have q : PostO X.K F H (if i.length + j.length ≤ 16777216 then some (.n (.lst (i ++ j))) else none) Q := q
      split at q
      · rename_i hz
        obtain ⟨a, xs, rfl, t1, r1⟩ := hx.lst s
        obtain ⟨b, ys, rfl, t2, r2⟩ := hy.lst s
        refine ⟨fun x y H Q => ∃ l b xs zs, x = .ref l ∧ y = .ref b ∧ Rd H l (.lst xs) ∧ Rd H b (.lst zs) ∧ xs.length + zs.length ≤ sizeLine ∧ ∀ p, H p = none → Q (.ref p) (upd H p (.lst (xs ++ zs))), ?_,
          a, b, xs, ys, rfl, rfl, t1, t2, by rw [sizeLine_eq, r1.length, r2.length]; exact hz, fun p np => q.lst s (r1.append r2) np⟩
        intro pins s σ H x y v u Q I rx ry h
        obtain ⟨l, b, xs, zs, rfl, rfl, hH, hB, hz, q⟩ := h
        cases rx
        cases ry
        obtain ⟨z, its, n, r, e⟩ := hH.ok I.hok
        obtain ⟨z2, its2, n2, r2, e2⟩ := hB.ok I.hok
        have hl := r.length
        have hl2 := r2.length
        refine PySem.P.add_list e e2 ?_ (by rw [List.size_toArray, List.size_toArray]; omega)
        rw [show its.toArray ++ its2.toArray = (its ++ its2).toArray by simp]
        exact ⟨.ref _, _, I.lnew (t' := s.toks) (r.append r2) (by rw [List.length_append]; omega), rfl, q _ I.fresh⟩
      · exact q.elim
    | _ => exact q.elim
  | _ => cases e <;> exact q.elim
theorem o_sub : OpR X (binaryOp .Sub) (rO2 X.K O.sub) := OpR.imp op_sub fun x y H Q ⟨F, d, e, s, hx, hy, q⟩ => by
  cases d with
  | int i =>
    cases e with
    | int j => exact ⟨i, j, hx.int, hy.int, q.dat s (.int _)⟩
    | _ => exact q.elim
  | _ => cases e <;> exact q.elim
/-- a list that stands (locked or not) times an int -/
theorem rep_rd : OpR X (binaryOp .Mult) (fun x y H Q => ∃ l k xs, x = .ref l ∧ y = .int k ∧ Rd H l (.lst xs) ∧ -(2 ^ 63) ≤ k ∧ k < 2 ^ 63 ∧ xs.length * k.toNat ≤ sizeLine ∧ ∀ p, H p = none → Q (.ref p) (upd H p (.lst (List.replicate k.toNat xs).flatten))) := by
  intro pins s σ H x y v u Q I rx ry h
  obtain ⟨l, k, xs, rfl, rfl, hH, h1, h2, hz, q⟩ := h
  cases rx
  obtain ⟨t, rfl⟩ := ry
  obtain ⟨z, its, n, r, e⟩ := hH.ok I.hok
  have hl := r.length
  have c1 : its.toArray.size * k.toNat ≤ sizeLine := by rw [List.size_toArray, ← hl]; exact hz
  have c2 : ¬ its.toArray.size * k.toNat > (2 ^ 63 - 1) / 8 := by
    have hs : (sizeLine : Nat) = 16777216 := sizeLine_eq
    rw [hs] at c1
    omega
  have c3 : ¬ (!Builtin.List.listFitsIndex k) = true := by rw [fitsIndex_both h1 h2]; decide
  have c4 : ¬ Builtin.List.listTooLong (its.toArray.size * k.toNat) = true := by rw [notLongL c1]; decide
  have c5 : List.foldl (fun x1 x2 => x1 ++ x2) #[] (List.replicate (if its.toArray.isEmpty = true then 0 else k.toNat) its.toArray) = (List.replicate k.toNat its).flatten.toArray := by
    have c6 : ∀ m : Nat, List.foldl (fun x1 x2 => x1 ++ x2) #[] (List.replicate m its.toArray) = (List.replicate m its).flatten.toArray := fun m => foldl_rep its m []
    rw [c6]
    cases its with
    | nil => simp
    | cons a b => simp
  refine wpAny_binaryOp_repeat_ref (T := "list") (U := "int") (by decide) ⟨_, e, rfl⟩ (fun z => typeIs_int z k t) noFill_list_mul F.fills_int_mul F.slot_int_rmul repeat_list F.slot_int_index.lookup ?_
  refine call_meets F.slot_int_rmul (typeIs_int s k t) F.entry_int_rmul (F.args_int_rmul_2 _ _) (int___rmul___int_list k t l its.toArray n) ⟨e, rfl, ⟨_, e, rfl⟩, ?_⟩
  refine call_meets F.slot_list_mul ⟨_, e, rfl⟩ F.entry_list_mul (F.args_list_mul_2 _ _) (AutoListH.list___mul___list_int_3 l its.toArray n k t c3 c2 c4) ⟨e, ?_⟩
  rw [c5]
  exact ⟨.ref _, _, I.lnew (t' := s.toks) (r.rep k.toNat) (by rw [PyProof.Rows.lm_len_rep_flat, Nat.mul_comm]; exact hz), rfl, q _ I.fresh⟩
theorem o_mul : OpR X (binaryOp .Mult) (rO2 X.K O.mul) := OpR.pick fun x y H Q ⟨F, d, e, s, hx, hy, q⟩ => by
  cases d with
  | int i =>
    cases e with
    | int j =>
      have q : PostO X.K F H (if (-(2 ^ 64) < i ∧ i < 2 ^ 64) ∨ (-(2 ^ 64) < j ∧ j < 2 ^ 64) then some (.v (.int (i * j))) else none) Q := q
      split at q
      · rename_i hz
        exact ⟨_, op_mul, i, j, hx.int, hy.int, hz, q.dat s (.int _)⟩
      · exact q.elim
    | _ => exact q.elim
  | lst i =>
    cases e with
    | int k =>
      have q : PostO X.K F H (if -(2 ^ 63) ≤ k ∧ k < 2 ^ 63 ∧ i.length * k.toNat ≤ 16777216 then some (.n (.lst (List.replicate k.toNat i).flatten)) else none) Q := q
      split at q
      · rename_i hz
        obtain ⟨a, xs, rfl, t1, r1⟩ := hx.lst s
        exact ⟨_, rep_rd, a, k, xs, rfl, hy.int, t1, hz.1, hz.2.1, by rw [sizeLine_eq, r1.length]; exact hz.2.2, fun p np => q.lst s (r1.rep _) np⟩
      · exact q.elim
    | _ => exact q.elim
  | _ => cases e <;> exact q.elim

theorem o_fdiv : OpR X (binaryOp .FloorDiv) (rO2 X.K O.fdiv) := OpR.imp op_fdiv fun x y H Q ⟨F, d, e, s, hx, hy, q⟩ => by
  cases d with
  | int i =>
    cases e with
    | int j =>
      have q : PostO X.K F H (if 0 < j ∧ j < 1073741824 then some (.v (.int (i / j))) else none) Q := q
      split at q
      · rename_i hz
        exact ⟨i, j, hx.int, hy.int, hz, q.dat s (.int _)⟩
      · exact q.elim
    | _ => exact q.elim
  | _ => cases e <;> exact q.elim
theorem o_mod : OpR X (binaryOp .Mod) (rO2 X.K O.mod) := OpR.imp op_mod fun x y H Q ⟨F, d, e, s, hx, hy, q⟩ => by
  cases d with
  | int i =>
    cases e with
    | int j =>
      have q : PostO X.K F H (if 0 < j then some (.v (.int (i % j))) else none) Q := q
      split at q
      · rename_i hz
        exact ⟨i, j, hx.int, hy.int, hz, q.dat s (.int _)⟩
      · exact q.elim
    | _ => exact q.elim
  | _ => cases e <;> exact q.elim
theorem o_pow : OpR X (binaryOp .Pow) (rO2 X.K O.pow) := OpR.imp op_pow fun x y H Q ⟨F, d, e, s, hx, hy, q⟩ => by
  cases d with
  | int i =>
    cases e with
    | int j =>
      have q : PostO X.K F H (if 0 ≤ j ∧ j ≤ 1000000 ∧ i.natAbs < 2 ^ 64 then some (.v (.int (i ^ j.toNat))) else none) Q := q
      split at q
      · rename_i hz
        exact ⟨i, j, hx.int, hy.int, hz, q.dat s (.int _)⟩
      · exact q.elim
    | _ => exact q.elim
  | _ => cases e <;> exact q.elim
theorem u_neg : UnR X (unaryOp .USub) (rO1 X.K O.neg) := fun pins s σ H x v Q I rx h => by
  obtain ⟨F, d, sm, hx, q⟩ := h
  cases d with
  | int i => exact un_neg pins s σ H x v Q I rx ⟨i, hx.int, q.dat sm (.int _)⟩
  | _ => exact q.elim
theorem o_lt : OpR X (compareOp .Lt) (rO2 X.K O.lt) := OpR.imp op_lt fun x y H Q ⟨F, d, e, s, hx, hy, q⟩ => by
  cases d with
  | int i =>
    cases e with
    | int j => exact ⟨i, j, hx.int, hy.int, q.dat s (.bl _)⟩
    | _ => exact q.elim
  | _ => cases e <;> exact q.elim
theorem o_le : OpR X (compareOp .LtE) (rO2 X.K O.le) := OpR.imp op_le fun x y H Q ⟨F, d, e, s, hx, hy, q⟩ => by
  cases d with
  | int i =>
    cases e with
    | int j => exact ⟨i, j, hx.int, hy.int, q.dat s (.bl _)⟩
    | _ => exact q.elim
  | _ => cases e <;> exact q.elim
theorem o_gt : OpR X (compareOp .Gt) (rO2 X.K O.gt) := OpR.imp op_gt fun x y H Q ⟨F, d, e, s, hx, hy, q⟩ => by
  cases d with
  | int i =>
    cases e with
    | int j => exact ⟨i, j, hx.int, hy.int, q.dat s (.bl _)⟩
    | _ => exact q.elim
  | _ => cases e <;> exact q.elim
theorem o_ge : OpR X (compareOp .GtE) (rO2 X.K O.ge) := OpR.imp op_ge fun x y H Q ⟨F, d, e, s, hx, hy, q⟩ => by
  cases d with
  | int i =>
    cases e with
    | int j => exact ⟨i, j, hx.int, hy.int, q.dat s (.bl _)⟩
    | _ => exact q.elim
  | _ => cases e <;> exact q.elim
theorem o_eq (hu : X.A.units + 64 < cLine) : OpR X (compareOp .Eq) (rO2 X.K O.eq) := OpR.imp (op_eqD hu) fun x y H Q ⟨F, d, e, s, hx, hy, q⟩ => by
  have q : PostO X.K F H (if (d.lay 9 && e.lay 9) = true then some (.v (.bl (d.eqv e))) else none) Q := q
  split at q
  · rename_i hz
    rw [Bool.and_eq_true] at hz
    exact ⟨d.py, e.py, (hx.rep s).dp, (hy.rep s).dp, lay_shaped hz.1 (by decide), lay_shaped hz.2 (by decide), by rw [eqv_py _ _ _ _ hz.1 hz.2]; exact q.dat s (.bl _)⟩
  · exact q.elim
theorem o_ne (hu : X.A.units + 64 < cLine) : OpR X (compareOp .NotEq) (rO2 X.K O.ne) := OpR.imp (op_neD hu) fun x y H Q ⟨F, d, e, s, hx, hy, q⟩ => by
  have q : PostO X.K F H (if (d.lay 9 && e.lay 9) = true then some (.v (.bl (!d.eqv e))) else none) Q := q
  split at q
  · rename_i hz
    rw [Bool.and_eq_true] at hz
    exact ⟨d.py, e.py, (hx.rep s).dp, (hy.rep s).dp, lay_shaped hz.1 (by decide), lay_shaped hz.2 (by decide), by rw [eqv_py _ _ _ _ hz.1 hz.2]; exact q.dat s (.bl _)⟩
  · exact q.elim
theorem rep_non {K : PySem.W.Frag} {F H : Hp} {x : V} {d : D} (h : RepO K F H x d) : decide (x = V.non) = noneD d := by
  cases d with
  | non => rw [h.non]; rfl
  | bl b => rw [h.bl]; rfl
  | int i => rw [h.int]; rfl
  | str i => rw [h.str]; rfl
  | tup ds => obtain ⟨a, xs, rfl, _⟩ := h.tup; rfl
  | lst ds =>
    rcases h with h | ⟨a, c, rfl, _⟩
    · cases h; rfl
    · rfl
  | obj c fs =>
    have h := h.data fun _ z => nomatch z
    cases h
  | kls c =>
    have h := h.data fun _ z => nomatch z
    cases h; rfl
theorem o_is : OpR X (compareOp .Is) (rO2 X.K O.isN) := OpR.pick fun x y H Q ⟨F, d, e, s, hx, hy, q⟩ => by
  cases e with
  | non =>
    refine ⟨_, op_isN, hy.non, ?_⟩
    rw [rep_non hx]
    exact PostO.dat (v := .bl (noneD d)) s (d := .bl (noneD d)) (by cases d <;> exact q) (.bl _)
  | bl b =>
    cases d with
    | bl a => exact ⟨_, op_isBl, a, b, hx.bl, hy.bl, q.dat s (.bl _)⟩
    | _ => exact q.elim
  | _ => cases d <;> exact q.elim
theorem o_isnot : OpR X (compareOp .IsNot) (rO2 X.K O.notN) := OpR.pick fun x y H Q ⟨F, d, e, s, hx, hy, q⟩ => by
  cases e with
  | non =>
    refine ⟨_, op_notN, hy.non, ?_⟩
    rw [rep_non hx]
    exact PostO.dat (v := .bl (!noneD d)) s (d := .bl (!noneD d)) (by cases d <;> exact q) (.bl _)
  | bl b =>
    cases d with
    | bl a => exact ⟨_, op_notBl, a, b, hx.bl, hy.bl, q.dat s (.bl _)⟩
    | _ => exact q.elim
  | _ => cases d <;> exact q.elim
theorem flat_rep {K : PySem.W.Frag} {F : Hp} {v : V} {d : D} (h : Rep K F v d) (f : flatD d = true) : flatV v = true := by
  cases h <;> first | rfl | cases f
theorem flat_eq {K : PySem.W.Frag} {F : Hp} {v w : V} {d e : D} (h : Rep K F v d) (k : Rep K F w e) (f : flatD d = true) (g : flatD e = true) : eqV v w = d.eqv e := by
  cases h <;> cases k <;> simp_all [eqV, D.eqv, flatD]
theorem flat_all {K : PySem.W.Frag} {F : Hp} : ∀ {vs : List V} {ds : List D}, RepL K F vs ds → ds.all flatD = true → vs.all flatV = true
  | _, _, .nil, _ => rfl
  | _, _, .cons h r, f => by
    rw [List.all_cons, Bool.and_eq_true] at f ⊢
    exact ⟨flat_rep h f.1, flat_all r f.2⟩
theorem flat_any {K : PySem.W.Frag} {F : Hp} {x : V} {e : D} (k : Rep K F x e) (g : flatD e = true) : ∀ {vs : List V} {ds : List D}, RepL K F vs ds → ds.all flatD = true → inV x vs = ds.any fun z => z.eqv e
  | _, _, .nil, _ => rfl
  | _, _, .cons h r, f => by
    rw [List.all_cons, Bool.and_eq_true] at f
    have ih := flat_any k g r f.2
    unfold inV at ih ⊢
    rw [List.any_cons, List.any_cons, flat_eq h k f.1 g, ih]
theorem any_py : ∀ {n : Nat} {ds : List D} {x : D}, D.layL n ds = true → x.lay 9 = true → ((D.pyL ds).any fun z => PyData.eqv z x.py) = ds.any fun z => z.eqv x
  | n, [], x, _, _ => rfl
  | n, d :: ds, x, h, k => by
    have h : D.lay n d = true ∧ D.layL n ds = true := by simpa [D.layL] using h
    simp only [D.pyL, List.any_cons]
    rw [eqv_py n 9 d x h.1 k, any_py h.2 k]
theorem o_in (hu : X.A.units + 65 < cLine) : OpR X (compareOp .In) (rO2 X.K O.isin) := OpR.pick fun x y H Q ⟨F, d, e, s, hx, hy, q⟩ => by
  cases e with
  | lst ds =>
    have q : PostO X.K F H (if (d.lay 9 && D.layL 8 ds) = true then some (.v (.bl (ds.any fun z => z.eqv d))) else none) Q := q
    split at q
    · rename_i hz
      rw [Bool.and_eq_true] at hz
      refine ⟨_, op_inD hu, d.py, D.pyL ds, (hx.rep s).dp, (hy.rep s).dp, lay_shaped hz.1 (by decide), lay_shaped (n := 9) (d := .lst ds) (by simpa [D.lay] using hz.2) (by decide), ?_⟩
      rw [any_py hz.2 hz.1]
      exact q.dat s (.bl _)
    · exact q.elim
  | tup ds =>
    have q : PostO X.K F H (if (flatD d && ds.all flatD) = true then some (.v (.bl (ds.any fun z => z.eqv d))) else none) Q := q
    split at q
    · rename_i hz
      rw [Bool.and_eq_true] at hz
      obtain ⟨a, xs, rfl, t, r⟩ := hy.tup
      have hd : Rep X.K F x d := hx.data fun es z => by rw [z] at hz; cases hz.1
      refine ⟨_, op_in_seq, a, xs, rfl, .inr (sameT s t), flat_rep hd hz.1, flat_all r hz.2, ?_⟩
      rw [if_neg Bool.false_ne_true, flat_any hd hz.1 r hz.2]
      exact q.dat s (.bl _)
    · exact q.elim
  | _ => exact q.elim
theorem o_notin (hu : X.A.units + 65 < cLine) : OpR X (compareOp .NotIn) (rO2 X.K O.notin) := OpR.pick fun x y H Q ⟨F, d, e, s, hx, hy, q⟩ => by
  cases e with
  | lst ds =>
    have q : PostO X.K F H (if (d.lay 9 && D.layL 8 ds) = true then some (.v (.bl (!ds.any fun z => z.eqv d))) else none) Q := q
    split at q
    · rename_i hz
      rw [Bool.and_eq_true] at hz
      refine ⟨_, op_notInD hu, d.py, D.pyL ds, (hx.rep s).dp, (hy.rep s).dp, lay_shaped hz.1 (by decide), lay_shaped (n := 9) (d := .lst ds) (by simpa [D.lay] using hz.2) (by decide), ?_⟩
      rw [any_py hz.2 hz.1]
      exact q.dat s (.bl _)
    · exact q.elim
  | tup ds =>
    have q : PostO X.K F H (if (flatD d && ds.all flatD) = true then some (.v (.bl (!ds.any fun z => z.eqv d))) else none) Q := q
    split at q
    · rename_i hz
      rw [Bool.and_eq_true] at hz
      obtain ⟨a, xs, rfl, t, r⟩ := hy.tup
      have hd : Rep X.K F x d := hx.data fun es z => by rw [z] at hz; cases hz.1
      refine ⟨_, op_notIn_seq, a, xs, rfl, .inr (sameT s t), flat_rep hd hz.1, flat_all r hz.2, ?_⟩
      rw [if_pos rfl, flat_any hd hz.1 r hz.2]
      exact q.dat s (.bl _)
    · exact q.elim
  | _ => exact q.elim
theorem o_ix : IxR X (rO2 X.K O.ix) := fun ve se pins s σ H x y v u Q I rx ry h pl => by
  obtain ⟨F, d, e, sm, hx, hy, q⟩ := h
  cases d with
  | lst ds =>
    cases e with
    | int i =>
      have q : PostO X.K F H ((atD ds i).map fun d => .v d) Q := q
      cases e1 : atD ds i with
      | none => rw [e1] at q; exact q.elim
      | some z =>
        rw [e1] at q
        obtain ⟨a, xs, rfl, t, r⟩ := hx.lst sm
        obtain ⟨w, h1, h2⟩ := at_rep r e1
        exact ix_list ve se pins s σ H _ y v u Q I rx ry ⟨a, xs, i, w, rfl, hy.int, .inl t, h1, PostO.dat sm q h2⟩ pl
    | _ => exact q.elim
  | tup ds =>
    cases e with
    | int i =>
      have q : PostO X.K F H ((atD ds i).map fun d => .v d) Q := q
      cases e1 : atD ds i with
      | none => rw [e1] at q; exact q.elim
      | some z =>
        rw [e1] at q
        obtain ⟨a, xs, rfl, t, r⟩ := hx.tup
        obtain ⟨w, h1, h2⟩ := at_rep r e1
        exact ix_tup ve se pins s σ H _ y v u Q I rx ry ⟨a, xs, i, w, rfl, hy.int, sameT sm t, h1, PostO.dat sm q h2⟩ pl
    | _ => exact q.elim
  | _ => cases e <;> exact q.elim

/-! ### built-in calls -/
theorem repOL1 {K : PySem.W.Frag} {F H : Hp} {xs : List V} {d : D} (h : RepOL K F H xs [d]) : ∃ x, xs = [x] ∧ RepO K F H x d := by
  cases xs with
  | nil => exact h.elim
  | cons x r =>
    cases r with
    | nil => exact ⟨x, rfl, h.1⟩
    | cons y r => exact h.2.elim
theorem repOL2 {K : PySem.W.Frag} {F H : Hp} {xs : List V} {d e : D} (h : RepOL K F H xs [d, e]) : ∃ x y, xs = [x, y] ∧ RepO K F H x d ∧ RepO K F H y e := by
  cases xs with
  | nil => exact h.elim
  | cons x r =>
    obtain ⟨y, rfl, k⟩ := repOL1 (show RepOL K F H r [e] from h.2)
    exact ⟨x, y, rfl, h.1, k⟩
theorem b_len : CallR X (.builtin "len") (rON X.K O.len) := CallR.pick fun xs H Q ⟨F, ds, s, h, q⟩ => by
  match ds, h, q with
  | [d], h, q =>
    obtain ⟨x, rfl, k⟩ := repOL1 h
    cases d with
    | lst es =>
      obtain ⟨a, ys, rfl, t, r⟩ := k.lst s
      exact ⟨_, call_len_seq, a, ys, rfl, .inl (.inl t), by rw [r.length]; exact q.dat s (.int _)⟩
    | tup es =>
      obtain ⟨a, ys, rfl, t, r⟩ := k.tup
      exact ⟨_, call_len_seq, a, ys, rfl, .inr (sameT s t), by rw [r.length]; exact q.dat s (.int _)⟩
    | str z =>
      have q : PostO X.K F H (if z.length ≤ 16777216 then some (.v (.int z.length)) else none) Q := q
      split at q
      · rename_i hz
        exact ⟨_, call_len_str, z, by rw [k.str], by rw [sizeLine_eq]; exact hz, q.dat s (.int _)⟩
      · exact q.elim
    | _ => exact q.elim
  | [], h, q => exact q.elim
  | d :: _ :: _, h, q => cases d <;> exact q.elim
theorem b_abs : CallR X (.builtin "abs") (rON X.K O.abs) := CallR.pick fun xs H Q ⟨F, ds, s, h, q⟩ => by
  match ds, h, q with
  | [d], h, q =>
    obtain ⟨x, rfl, k⟩ := repOL1 h
    cases d with
    | int i => exact ⟨_, call_abs, i, by rw [k.int], q.dat s (.int _)⟩
    | _ => exact q.elim
  | [], h, q => exact q.elim
  | d :: _ :: _, h, q => cases d <;> exact q.elim
theorem b_max (hc : X.calm = true) : CallR X (.builtin "max") (rON X.K O.max2) := CallR.pick fun xs H Q ⟨F, ds, s, h, q⟩ => by
  match ds, h, q with
  | [.int i, .int j], h, q =>
    obtain ⟨x, y, rfl, k1, k2⟩ := repOL2 h
    exact ⟨_, call_max2 hc, i, j, by rw [k1.int, k2.int], q.dat s (.int _)⟩
  | [.lst es], h, q =>
    obtain ⟨x, rfl, k⟩ := repOL1 h
    obtain ⟨a, ys, rfl, t, r⟩ := k.lst s
    have q : PostO X.K F H ((intsOf es).bind fun ns => if 0 < ns.length then some (.v (.int (maxL ns))) else none) Q := q
    cases e : intsOf es with
    | none => rw [e] at q; exact q.elim
    | some ns =>
      rw [e] at q
      have q : PostO X.K F H (if 0 < ns.length then some (.v (.int (maxL ns))) else none) Q := q
      split at q
      · rename_i hz
        rw [ints_of e] at r
        have e2 := r.ints
        subst e2
        refine ⟨_, cr_max hc, a, ns, rfl, .inl t, hz, fun m hm hy => ?_⟩
        · obtain ⟨h1, h2⟩ := maxL_max hz
          have e3 : m = maxL ns := Int.le_antisymm (h2 m hm) (hy _ h1)
          rw [e3]
          exact PostO.dat s q (.int _)
      · exact q.elim
theorem b_min (hc : X.calm = true) : CallR X (.builtin "min") (rON X.K O.min2) := CallR.pick fun xs H Q ⟨F, ds, s, h, q⟩ => by
  match ds, h, q with
  | [.int i, .int j], h, q =>
    obtain ⟨x, y, rfl, k1, k2⟩ := repOL2 h
    exact ⟨_, call_min2 hc, i, j, by rw [k1.int, k2.int], q.dat s (.int _)⟩
  | [.lst es], h, q =>
    obtain ⟨x, rfl, k⟩ := repOL1 h
    obtain ⟨a, ys, rfl, t, r⟩ := k.lst s
    have q : PostO X.K F H ((intsOf es).bind fun ns => if 0 < ns.length then some (.v (.int (minL ns))) else none) Q := q
    cases e : intsOf es with
    | none => rw [e] at q; exact q.elim
    | some ns =>
      rw [e] at q
      have q : PostO X.K F H (if 0 < ns.length then some (.v (.int (minL ns))) else none) Q := q
      split at q
      · rename_i hz
        rw [ints_of e] at r
        have e2 := r.ints
        subst e2
        refine ⟨_, cr_min hc, a, ns, rfl, .inl t, hz, fun m hm hy => ?_⟩
        · obtain ⟨h1, h2⟩ := minL_min hz
          have e3 : m = minL ns := Int.le_antisymm (hy _ h1) (h2 m hm)
          rw [e3]
          exact PostO.dat s q (.int _)
      · exact q.elim
theorem b_sum (hc : X.calm = true) : CallR X (.builtin "sum") (rON X.K O.sum) := CallR.pick fun xs H Q ⟨F, ds, s, h, q⟩ => by
  match ds, h, q with
  | [.lst es], h, q =>
    obtain ⟨x, rfl, k⟩ := repOL1 h
    obtain ⟨a, ys, rfl, t, r⟩ := k.lst s
    have q : PostO X.K F H ((intsOf es).map fun ns => .v (.int ns.sum)) Q := q
    cases e : intsOf es with
    | none => rw [e] at q; exact q.elim
    | some ns =>
      rw [e] at q
      rw [ints_of e] at r
      have e2 := r.ints
      subst e2
      exact ⟨_, cr_sum hc, a, ns, rfl, .inl t, PostO.dat s q (.int _)⟩
theorem b_sorted : CallR X (.builtin "sorted") (rON X.K O.sorted) := CallR.pick fun xs H Q ⟨F, ds, s, h, q⟩ => by
  match ds, h, q with
  | [.lst es], h, q =>
    obtain ⟨x, rfl, k⟩ := repOL1 h
    obtain ⟨a, ys, rfl, t, r⟩ := k.lst s
    have q : PostO X.K F H ((intsOf es).map fun ns => .n (.lst ((sortI ns).map D.int))) Q := q
    cases e : intsOf es with
    | none => rw [e] at q; exact q.elim
    | some ns =>
      rw [e] at q
      rw [ints_of e] at r
      have e2 := r.ints
      subst e2
      refine ⟨_, cr_sortedI, a, ns, rfl, .inl t, fun ns' p pe pw np => ?_⟩
      have e3 : ns' = sortI ns := sorted_one (pe.trans (sortI_perm ns).symm) pw (sortI_sorted ns)
      rw [e3]
      exact PostO.lst s q (RepL.of_ints _) np
theorem b_all (hc : X.calm = true) : CallR X (.builtin "all") (rON X.K O.all) := CallR.pick fun xs H Q ⟨F, ds, s, h, q⟩ => by
  match ds, h, q with
  | [.lst es], h, q =>
    obtain ⟨x, rfl, k⟩ := repOL1 h
    obtain ⟨a, ys, rfl, t, r⟩ := k.lst s
    have q : PostO X.K F H ((blsOf es).map fun ns => .v (.bl (ns.all id))) Q := q
    cases e : blsOf es with
    | none => rw [e] at q; exact q.elim
    | some ns =>
      rw [e] at q
      rw [bls_of e] at r
      have e2 := r.bls
      subst e2
      exact ⟨_, cr_all hc, a, ns, rfl, .inl t, PostO.dat s q (.bl _)⟩
theorem b_any (hc : X.calm = true) : CallR X (.builtin "any") (rON X.K O.any) := CallR.pick fun xs H Q ⟨F, ds, s, h, q⟩ => by
  match ds, h, q with
  | [.lst es], h, q =>
    obtain ⟨x, rfl, k⟩ := repOL1 h
    obtain ⟨a, ys, rfl, t, r⟩ := k.lst s
    have q : PostO X.K F H ((blsOf es).map fun ns => .v (.bl (ns.any id))) Q := q
    cases e : blsOf es with
    | none => rw [e] at q; exact q.elim
    | some ns =>
      rw [e] at q
      rw [bls_of e] at r
      have e2 := r.bls
      subst e2
      exact ⟨_, cr_any hc, a, ns, rfl, .inl t, PostO.dat s q (.bl _)⟩
theorem t_list : CallR X (.type "list") (rON X.K O.list) := CallR.pick fun xs H Q ⟨F, ds, s, h, q⟩ => by
  match ds, h, q with
  | [.lst es], h, q =>
    obtain ⟨x, rfl, k⟩ := repOL1 h
    obtain ⟨a, ys, rfl, t, r⟩ := k.lst s
    exact ⟨_, call_list_of, a, ys, rfl, .inl (.inl t), fun p np => q.lst s r np⟩
  | [.tup es], h, q =>
    obtain ⟨x, rfl, k⟩ := repOL1 h
    obtain ⟨a, ys, rfl, t, r⟩ := k.tup
    exact ⟨_, call_list_of, a, ys, rfl, .inr (sameT s t), fun p np => q.lst s r np⟩
theorem t_tuple : CallR X (.type "tuple") (rON X.K O.tuple) := CallR.pick fun xs H Q ⟨F, ds, s, h, q⟩ => by
  match ds, h, q with
  | [.lst es], h, q =>
    obtain ⟨x, rfl, k⟩ := repOL1 h
    obtain ⟨a, ys, rfl, t, r⟩ := k.lst s
    exact ⟨_, call_tuple_of, a, ys, rfl, .inl ⟨.inl t, fun p np => q.tup s r np⟩⟩
  | [.tup es], h, q =>
    obtain ⟨x, rfl, k⟩ := repOL1 h
    obtain ⟨a, ys, rfl, t, r⟩ := k.tup
    exact ⟨_, call_tuple_of, a, ys, rfl, .inr ⟨sameT s t, q.dat s (.tup t r)⟩⟩
theorem t_int : CallR X (.type "int") (rON X.K O.int) := CallR.pick fun xs H Q ⟨F, ds, s, h, q⟩ => by
  match ds, h, q with
  | [.int i], h, q =>
    obtain ⟨x, rfl, k⟩ := repOL1 h
    exact ⟨_, call_int1, .inl ⟨i, by rw [k.int], q.dat s (.int _)⟩⟩
  | [.bl i], h, q =>
    obtain ⟨x, rfl, k⟩ := repOL1 h
    exact ⟨_, call_int1, .inr ⟨i, by rw [k.bl], q.dat s (.int _)⟩⟩
theorem t_str : CallR X (.type "str") (rON X.K O.str) := CallR.pick fun xs H Q ⟨F, ds, s, h, q⟩ => by
  match ds, h, q with
  | [.int i], h, q =>
    obtain ⟨x, rfl, k⟩ := repOL1 h
    have q : PostO X.K F H (if i.natAbs.log2 < 1920 then some (.v (.str (toString i))) else none) Q := q
    split at q
    · rename_i hz
      exact ⟨_, call_str_int, i, by rw [k.int], hz, q.dat s (.str _)⟩
    · exact q.elim
end
end RF
set_option maxRecDepth 100000
namespace RF
open PySem PySem.Spec L2
/-! ### statements' pieces -/
@[simp] def free? (sl : Sl) (i : Nat) : Bool := match sl[i]? with
  | none => false
  | some (some (.bref _)) => false
  | some (some (.bval _)) => false
  | _ => true
namespace C
@[simp] def put (i : Nat) (r : RV) (sl : Sl) : Option Sl := if free? sl i = true then (match r with
  | .v d => some (sl.set i (some (.val d)))
  | .n c => some (sl.set i (some (.own c)))
  | .s _ => none) else none
/-- handles are let go into the data -/
@[simp] def settle (r : RV) (sl : Sl) : Option (RV × Sl) := match r with
  | .s i => (frz (.s i) sl).map fun p => (.v p.1, p.2)
  | r => some (r, sl)
def set (i : Nat) (e : Den) : SDen := fun sl => match e sl with
  | .ok r sl1 => (match settle r sl1 with
    | some (r', sl2) => (match put i r' sl2 with
      | some sl3 => .nx sl3
      | none => .fail)
    | none => .fail)
  | .exc x s => .exc x s
  | .fail => .fail
def drop (e : Den) : SDen := fun sl => match e sl with
  | .ok _ sl1 => .nx sl1
  | .exc x s => .exc x s
  | .fail => .fail
def ret (e : Den) : SDen := fun sl => match e sl with
  | .ok r sl1 => (match r with
    | .s i => (match sl1[i]? with
      | some (some (.own c)) => .rt (.n c) (sl1.set i none)
      | _ => (match frz (.s i) sl1 with
        | some (d, sl2) => .rt (.v d) sl2
        | none => .fail))
    | r => .rt r sl1)
  | .exc x s => .exc x s
  | .fail => .fail
def retN : SDen := fun sl => .rt (.v .non) sl
def pass : SDen := fun sl => .nx sl
def brk : SDen := fun sl => .bk sl
def cnt : SDen := fun sl => .ct sl
def seq (a b : SDen) : SDen := fun sl => match a sl with
  | .nx sl1 => b sl1
  | r => r
def ifS (t : TDen) (a b : SDen) : SDen := fun sl => match t sl with
  | .ok c sl1 => if c = true then a sl1 else b sl1
  | .exc x s => .exc x s
  | .fail => .fail
def loop (g : GDen) (b : SDen) : List D → Sl → SRes
  | [], sl => .nx sl
  | d :: ds, sl => match g.run d sl with
    | none => .fail
    | some sl1 => (match b sl1 with
      | .nx sl2 => loop g b ds sl2
      | .ct sl2 => loop g b ds sl2
      | .bk sl2 => .nx sl2
      | r => r)
def forS (g : GDen) (it : IDen) (b : SDen) : SDen := fun sl => match it sl with
  | .ok ds sl1 => loop g b ds sl1
  | .exc x s => .exc x s
  | .fail => .fail
def wloop (t : TDen) (b : SDen) : Nat → Sl → SRes
  | 0, _ => .fail
  | n + 1, sl => match t sl with
    | .ok c sl1 => if c = true then (match b sl1 with
      | .nx sl2 => wloop t b n sl2
      | .ct sl2 => wloop t b n sl2
      | .bk sl2 => .nx sl2
      | r => r) else .nx sl1
    | .exc x s => .exc x s
    | .fail => .fail
def gname (i : Nat) : GDen := ⟨fun d sl => put i (.v d) sl, [i]⟩
structure GsDen where
  run : List D → Sl → Option Sl
  tch : List Nat
def gnil : GsDen := ⟨fun ds sl => match ds with | [] => some sl | _ => none, []⟩
def gcons (g : GDen) (h : GsDen) : GsDen := ⟨fun ds sl => match ds with
  | d :: r => (match g.run d sl with
    | some sl1 => h.run r sl1
    | none => none)
  | [] => none, g.tch ++ h.tch⟩
def gtup (n : Nat) (h : GsDen) : GDen := ⟨fun d sl => match d with
  | .tup ds => if ds.length = n then h.run ds sl else none
  | .lst ds => if ds.length = n then h.run ds sl else none
  | _ => none, h.tch⟩
/-- target = value -/
def asg (g : GDen) (e : Den) : SDen := fun sl => match e sl with
  | .ok r sl1 => (match frz r sl1 with
    | some (d, sl2) => (match g.run d sl2 with
      | some sl3 => .nx sl3
      | none => .fail)
    | none => .fail)
  | .exc x s => .exc x s
  | .fail => .fail
end C

section
variable {K : PySem.W.Frag} {F H F' H' H0 F0 : Hp} {σ σ0 : St} {sl sl' sl0 : Sl} {v : V} {d : D}
theorem free_some {i : Nat} (h : free? sl i = true) : i < sl.length ∧ ∀ x, sl[i]? = some (some x) → ¬ ((∃ c, x = .bref c) ∨ ∃ d, x = .bval d) := by
  unfold free? at h
  cases e : sl[i]? with
  | none => rw [e] at h; cases h
  | some x =>
    refine ⟨(List.getElem?_eq_some_iff.mp e).1, fun y hy hz => ?_⟩
    cases hy
    rw [e] at h
    rcases hz with ⟨c, rfl⟩ | ⟨c, rfl⟩ <;> cases h
theorem set_join {i : Nat} {v : V} (h : i < σ.length) : (σ.set i (some v))[i]?.join = some v := by rw [List.getElem?_set_self h]; rfl
/-- a slot is stored -/
theorem put_ok {i : Nat} {r : RV} (st : Step K F0 H0 σ0 sl0 F H σ sl) (h : RVR K H0 F H σ sl v r) (e : C.put i r sl = some sl') :
    Step K F0 H0 σ0 sl0 F H (σ.set i (some v)) sl' ∧ sl'.length = sl.length ∧ ∀ j, j ≠ i → sl'[j]? = sl[j]? := by
  unfold C.put at e
  split at e
  · rename_i hf
    obtain ⟨hi, hb⟩ := free_some hf
    have hiσ : i < σ.length := by rw [st.cor.len]; exact hi
    have pin : ∀ {x : SV} (j : Nat) (y : SV), sl0[j]? = some (some y) → (∃ c, y = .bref c) ∨ (∃ d, y = .bval d) → (σ.set i (some v))[j]? = σ0[j]? ∧ ∃ z, (sl.set i (some x))[j]? = some (some z) ∧ ((∃ c, z = .bref c) ∨ ∃ d, z = .bval d) := fun {x} j y q hq => by
      obtain ⟨e1, z, e2, e3⟩ := st.pin j y q hq
      have hj : i ≠ j := fun z' => by subst z'; exact hb z e2 e3
      rw [List.getElem?_set_ne hj, List.getElem?_set_ne hj]
      exact ⟨e1, z, e2, e3⟩
    cases r with
    | s j => cases e
    | v d =>
      cases e
      have own : ∀ {j : Nat} {a : Addr}, OwnAt (σ.set i (some v)) (sl.set i (some (.val d))) j a → OwnAt σ sl j a := fun {j a} ⟨x, c, e1, e2, e3⟩ => by
        have hj : i ≠ j := fun z' => by subst z'; rw [List.getElem?_set_self hi] at e1; cases e1; cases e2
        rw [List.getElem?_set_ne hj] at e1 e3
        exact ⟨x, c, e1, e2, e3⟩
      refine ⟨⟨st.ext, ⟨st.cor.ff, by rw [List.length_set, List.length_set]; exact st.cor.len, fun j x q => ?_, fun j l a h1 h2 => st.cor.dj j l a (own h1) (own h2)⟩, fun a ⟨j, z⟩ => st.own a ⟨j, own z⟩, pin⟩, List.length_set, fun j hj => List.getElem?_set_ne (Ne.symm hj)⟩
      by_cases hj : i = j
      · subst hj
        rw [List.getElem?_set_self hi] at q; cases q
        exact ⟨v, set_join hiσ, h⟩
      · rw [List.getElem?_set_ne hj] at q ⊢
        exact st.cor.ok j x q
    | n c =>
      cases e
      obtain ⟨a, rfl, ca, hF, no, h0⟩ := h
      have own : ∀ {j : Nat} {b : Addr}, OwnAt (σ.set i (some (.ref a))) (sl.set i (some (.own c))) j b → (j = i ∧ b = a) ∨ (j ≠ i ∧ OwnAt σ sl j b) := fun {j b} ⟨x, c', e1, e2, e3⟩ => by
        by_cases hj : i = j
        · subst hj
          rw [List.getElem?_set_self hiσ] at e3; cases e3
          exact .inl ⟨rfl, rfl⟩
        · rw [List.getElem?_set_ne hj] at e1 e3
          exact .inr ⟨fun z => hj z.symm, x, c', e1, e2, e3⟩
      refine ⟨⟨st.ext, ⟨st.cor.ff, by rw [List.length_set, List.length_set]; exact st.cor.len, fun j x q => ?_, fun j l b h1 h2 => ?_⟩, fun b ⟨j, z⟩ => ?_, pin⟩, List.length_set, fun j hj => List.getElem?_set_ne (Ne.symm hj)⟩
      · by_cases hj : i = j
        · subst hj
          rw [List.getElem?_set_self hi] at q; cases q
          exact ⟨a, set_join hiσ, ca, hF⟩
        · rw [List.getElem?_set_ne hj] at q ⊢
          exact st.cor.ok j x q
      · rcases own h1 with ⟨rfl, rfl⟩ | ⟨n1, k1⟩ <;> rcases own h2 with ⟨rfl, e2⟩ | ⟨n2, k2⟩
        · rfl
        · exact absurd ⟨l, k2⟩ no
        · subst e2; exact absurd ⟨j, k1⟩ no
        · exact st.cor.dj j l b k1 k2
      · rcases own z with ⟨_, rfl⟩ | ⟨_, k⟩
        · exact .inr h0
        · exact st.own b ⟨j, k⟩
  · cases e
theorem settle_ok {r r' : RV} (st : Step K F0 H0 σ sl0 F H σ sl) (h : RVR K H0 F H σ sl v r) (e : C.settle r sl = some (r', sl')) :
    ∃ F', Step K F0 H0 σ sl0 F' H σ sl' ∧ RVR K H0 F' H σ sl' v r' ∧ Same F F' := by
  cases r with
  | v d => cases e; exact ⟨F, st, h, Same.refl F⟩
  | n c => cases e; exact ⟨F, st, h, Same.refl F⟩
  | s i =>
    have e : (frz (.s i) sl).map (fun p => (RV.v p.1, p.2)) = some (r', sl') := e
    cases q : frz (.s i) sl with
    | none => rw [q] at e; cases e
    | some p =>
      rw [q] at e
      cases e
      obtain ⟨F1, s1, rp, sm⟩ := frz_ok st h (show frz (.s i) sl = some (p.1, p.2) from q)
      exact ⟨F1, s1, rp, sm⟩
end

section
variable {K : PySem.W.Frag} {xr : XRel} {wx : WX}
/-- what is wanted from a start, seen from behind a step -/
theorem PostS.from {F H F1 H1 : Hp} {σ σ1 : St} {sl sl1 : Sl} {res : SRes} {E : Ends} (st : Step K F H σ sl F1 H1 σ1 sl1) (post : PostS K xr wx F H σ sl res E) : PostS K xr wx F1 H1 σ1 sl1 res E := by
  cases res with
  | fail => exact post
  | exc x s => exact fun F2 H2 σ2 cls d st2 hx => post F2 H2 σ2 cls d (st.trans st2) hx
  | nx s => exact fun F2 H2 σ2 st2 => post F2 H2 σ2 (st.trans st2)
  | bk s => exact fun F2 H2 σ2 st2 => post F2 H2 σ2 (st.trans st2)
  | ct s => exact fun F2 H2 σ2 st2 => post F2 H2 σ2 (st.trans st2)
  | rt r s =>
    refine fun F2 H2 σ2 v st2 rv => post F2 H2 σ2 v (st.trans st2) ?_
    cases r with
    | v d => exact rv
    | s i => exact rv
    | n c =>
      obtain ⟨a, e, ca, hf, no, h0⟩ := rv
      refine ⟨a, e, ca, hf, no, ?_⟩
      rcases h0 with h0 | h0
      · exact .inl (st.ext.th a h0)
      · exact (st.ownK h0).symm
theorem seq_ok {a b : SDen} {E : Ends} {σ : St} {H : Hp} (h : rdS K xr wx (C.seq a b) E σ H) : tSeq (rdS K xr wx a) (rdS K xr wx b) E σ H := by
  obtain ⟨F, sl, cor, post⟩ := h
  refine ⟨F, sl, cor, ?_⟩
  unfold C.seq at post
  cases e : a sl with
  | nx sl1 =>
    rw [e] at post
    exact fun F1 H1 σ1 st => ⟨F1, sl1, st.cor, PostS.from st post⟩
  | fail => rw [e] at post; exact post.elim
  | exc x s => rw [e] at post; exact post
  | bk s => rw [e] at post; exact post
  | ct s => rw [e] at post; exact post
  | rt r s => rw [e] at post; exact post
end

section
variable {X : Cx} {xr : XRel} {wx : WX} {a b c e : Expr} {es : List Expr} {da db dc : Den} {pos : Pos} {st : Stmt} {sts : List Stmt} {sa sb : SDen}
theorem pass_ok : PS X (.Pass pos) (rdS X.K xr wx C.pass) := PS.imp ps_pass fun E σ H ⟨F, sl, cor, post⟩ => post F H σ (.refl cor)
theorem brk_ok : PS X (.Break pos) (rdS X.K xr wx C.brk) := PS.imp ps_break fun E σ H ⟨F, sl, cor, post⟩ => post F H σ (.refl cor)
theorem cnt_ok : PS X (.Continue pos) (rdS X.K xr wx C.cnt) := PS.imp ps_continue fun E σ H ⟨F, sl, cor, post⟩ => post F H σ (.refl cor)
theorem snil_ok : PSs X [] (rdS X.K xr wx C.pass) := PSs.imp pss_nil fun E σ H ⟨F, sl, cor, post⟩ => post F H σ (.refl cor)
theorem scons_ok (h1 : PS X st (rdS X.K xr wx sa)) (h2 : PSs X sts (rdS X.K xr wx sb)) : PSs X (st :: sts) (rdS X.K xr wx (C.seq sa sb)) := PSs.imp (pss_cons h1 h2) fun E σ H h => seq_ok h
theorem sone_ok (h1 : PS X st (rdS X.K xr wx sa)) : PSs X [st] (rdS X.K xr wx sa) := pss_one h1
theorem drop_ok (he : PE X e (rdE X.K xr wx da)) (hs : swapsWith e none pos.line X.env = pure false) : PS X (.Expr e pos) (rdS X.K xr wx (C.drop da)) := PS.imp (ps_expr he hs) fun E σ H ⟨F, sl, cor, post⟩ => by
  refine ⟨F, sl, cor, ?_⟩
  unfold C.drop at post
  cases e1 : da sl with
  | fail => rw [e1] at post; exact post.elim
  | exc x s => rw [e1] at post; exact fun F' H' cls d st hx => post F' H' σ cls d st hx
  | ok r sl1 => rw [e1] at post; exact fun F' H' v st _ => post F' H' σ st
theorem retN_ok : PS X (.Return none pos) (rdS X.K xr wx C.retN) := PS.imp ps_retN fun E σ H ⟨F, sl, cor, post⟩ => post F H σ .non (.refl cor) .non
theorem ret_ok (he : PE X e (rdE X.K xr wx da)) : PS X (.Return (some e) pos) (rdS X.K xr wx (C.ret da)) := PS.imp (ps_ret he) fun E σ H ⟨F, sl, cor, post⟩ => by
  refine ⟨F, sl, cor, ?_⟩
  unfold C.ret at post
  cases e1 : da sl with
  | fail => rw [e1] at post; exact post.elim
  | exc x s => rw [e1] at post; exact fun F' H' cls d st hx => post F' H' σ cls d st hx
  | ok r sl1 =>
    rw [e1] at post
    simp only at post
    intro F1 H1 v1 st1 rv1
    cases r with
    | v d => exact post F1 H1 σ v1 st1 rv1
    | n c =>
      obtain ⟨a, e, ca, hf, no, h0⟩ := rv1
      exact post F1 H1 σ v1 st1 ⟨a, e, ca, hf, no, .inl h0⟩
    | s i =>
      simp only at post
      have other : ∀ {post : PostS X.K xr wx F H σ sl (match frz (.s i) sl1 with | some (d, sl2) => .rt (.v d) sl2 | none => .fail) E}, E.rt v1 H1 := fun {post} => by
        cases q : frz (.s i) sl1 with
        | none => rw [q] at post; exact post.elim
        | some p =>
          rw [q] at post
          obtain ⟨F2, st2, rp, _⟩ := frz_ok st1 rv1 (show frz (.s i) sl1 = some (p.1, p.2) from q)
          exact post F2 H1 σ v1 st2 rp
      cases q : sl1[i]? with
      | none => rw [q] at post; exact @other post
      | some x =>
        cases x with
        | none => rw [q] at post; exact @other post
        | some x =>
          cases x with
          | val d => rw [q] at post; exact @other post
          | bval d => rw [q] at post; exact @other post
          | bref d => rw [q] at post; exact @other post
          | own cl =>
            rw [q] at post
            have hv : σ[i]? = some (some v1) := rv1
            have k := st1.cor.at q
            rw [slot_join hv] at k
            obtain ⟨a, z, ca, hF⟩ := k
            cases z
            have hi : i < sl1.length := (List.getElem?_eq_some_iff.mp q).1
            have me : OwnAt σ sl1 i a := ⟨_, cl, q, rfl, hv⟩
            have own : ∀ {j : Nat} {b : Addr}, OwnAt σ (sl1.set i none) j b → OwnAt σ sl1 j b ∧ j ≠ i := fun {j b} ⟨x, c, e1, e2, e3⟩ => by
              have hj : i ≠ j := fun z' => by subst z'; rw [List.getElem?_set_self hi] at e1; cases e1
              rw [List.getElem?_set_ne hj] at e1
              exact ⟨⟨x, c, e1, e2, e3⟩, fun z => hj z.symm⟩
            refine post F1 H1 σ (.ref a) (st1.trans ⟨Ext.refl _ _ _, ⟨st1.cor.ff, by rw [List.length_set]; exact st1.cor.len, fun j x e => ?_, fun j l b h1 h2 => st1.cor.dj j l b (own h1).1 (own h2).1⟩, fun b ⟨j, z⟩ => .inl ⟨j, (own z).1⟩, fun j y e hy => ⟨rfl, ?_⟩⟩)
              ⟨a, rfl, ca, hF, fun ⟨j, z⟩ => (own z).2 (st1.cor.dj j i a (own z).1 me), (st1.ownK ⟨i, cl, q, hv⟩).symm⟩
            · by_cases hj : i = j
              · subst hj
                rw [List.getElem?_set_self hi] at e; cases e
                exact True.intro
              · rw [List.getElem?_set_ne hj] at e
                exact st1.cor.ok j x e
            · have hj : i ≠ j := fun z' => by
                subst z'
                rw [q] at e; cases e
                rcases hy with ⟨c, z⟩ | ⟨c, z⟩ <;> cases z
              rw [List.getElem?_set_ne hj]
              exact ⟨y, e, hy⟩
theorem if_ok {td : TDen} {p q : List Stmt} (ht : PT X c (rdT X.K xr wx td)) (ha : PSs X p (rdS X.K xr wx sa)) (hb : PSs X q (rdS X.K xr wx sb)) : PS X (.If c p q pos) (rdS X.K xr wx (C.ifS td sa sb)) := PS.imp (ps_if ht ha hb) fun E σ H ⟨F, sl, cor, post⟩ => by
  refine ⟨F, sl, cor, ?_⟩
  unfold C.ifS at post
  cases e1 : td sl with
  | fail => rw [e1] at post; exact post.elim
  | exc x s => rw [e1] at post; exact fun F' H' cls d st hx => post F' H' σ cls d st hx
  | ok k sl1 =>
    rw [e1] at post
    simp only at post
    intro F1 H1 st1
    cases k with
    | true => rw [if_pos rfl] at post ⊢; exact ⟨F1, sl1, st1.cor, PostS.from st1 post⟩
    | false => rw [if_neg Bool.false_ne_true] at post ⊢; exact ⟨F1, sl1, st1.cor, PostS.from st1 post⟩
theorem set_ok {i : Nat} {x : Str} {p : Pos} (hN : X.N.Nodup) (hi : X.N[i]? = some x) (hx : Loc X.env.scope x) (he : PE X e (rdE X.K xr wx da)) (hs : swapsWith e (some (.Name x p)) pos.line X.env = pure false) (hf : X.fn x = true ∨ X.env.scope.names.lookup x = some .local) :
    PS X (.Assign [.Name x p] e pos) (rdS X.K xr wx (C.set i da)) := PS.imp (ps_set hN hi hx he hs hf) fun E σ H ⟨F, sl, cor, post⟩ => by
  refine ⟨F, sl, cor, ?_⟩
  unfold C.set at post
  cases e1 : da sl with
  | fail => rw [e1] at post; exact post.elim
  | exc x s => rw [e1] at post; exact fun F' H' cls d st hx => post F' H' σ cls d st hx
  | ok r sl1 =>
    rw [e1] at post
    simp only at post
    intro F1 H1 v1 st1 rv1
    cases e2 : C.settle r sl1 with
    | none => rw [e2] at post; exact post.elim
    | some q =>
      obtain ⟨r', sl2⟩ := q
      rw [e2] at post
      simp only at post
      obtain ⟨F2, st2, rv2, _⟩ := settle_ok st1 rv1 e2
      cases e3 : C.put i r' sl2 with
      | none => rw [e3] at post; exact post.elim
      | some sl3 =>
        rw [e3] at post
        exact post F2 H1 _ (put_ok st2 rv2 e3).1
/-! ### targets -/
theorem gname_ok {i : Nat} {x : Str} {p : Pos} (hN : X.N.Nodup) (hi : X.N[i]? = some x) (hx : Loc X.env.scope x) (hf : X.fn x = true ∨ X.env.scope.names.lookup x = some .local) : PG X (.Name x p) (rdG X.K (C.gname i)) := PG.imp (pg_name hN hi hx hf) fun v σ H Q ⟨F, sl, d, cor, rp, post⟩ => by
  have post : PostG X.K F H σ sl [i] (C.put i (.v d) sl) Q := post
  cases e3 : C.put i (.v d) sl with
  | none => rw [e3] at post; exact post.elim
  | some sl3 =>
    rw [e3] at post
    obtain ⟨st, hl, hk⟩ := put_ok (Step.refl cor) (r := .v d) rp e3
    refine post F H _ st List.length_set fun j hj => ?_
    have hj : j ≠ i := fun z => hj (by simp [z])
    exact ⟨List.getElem?_set_ne (Ne.symm hj), hk j hj⟩
def rdGs (K : PySem.W.Frag) (g : C.GsDen) : TGs := fun vs σ H Q => ∃ F sl ds, Corr K F H σ sl ∧ RepL K F vs ds ∧ PostG K F H σ sl g.tch (g.run ds sl) Q
theorem gnil_ok : PGs X [] (rdGs X.K C.gnil) := PGs.imp pgs_nil fun vs σ H Q ⟨F, sl, ds, cor, rp, post⟩ => by
  cases ds with
  | nil => cases rp; exact ⟨rfl, post F H σ (.refl cor) rfl fun i _ => ⟨rfl, rfl⟩⟩
  | cons d ds => exact post.elim
theorem gcons_ok {g : GDen} {h : C.GsDen} (h1 : PG X e (rdG X.K g)) (h2 : PGs X es (rdGs X.K h)) (hs : (assignEach (e :: es) X.env).map (·.2) = assign e X.env :: (assignEach es X.env).map (·.2)) : PGs X (e :: es) (rdGs X.K (C.gcons g h)) := PGs.imp (pgs_cons h1 h2 hs) fun vs σ H Q ⟨F, sl, ds, cor, rp, post⟩ => by
  cases ds with
  | nil => exact post.elim
  | cons d ds =>
    cases rp with
    | cons r1 r2 =>
      refine ⟨_, _, rfl, F, sl, d, cor, r1, ?_⟩
      have post : PostG X.K F H σ sl (g.tch ++ h.tch) (match g.run d sl with | some sl1 => h.run ds sl1 | none => none) Q := post
      cases e1 : g.run d sl with
      | none => rw [e1] at post; exact post.elim
      | some sl1 =>
        rw [e1] at post
        intro F1 H1 σ1 st1 hl1 hk1
        refine ⟨F1, sl1, ds, st1.cor, r2.mono st1.ext.ff, ?_⟩
        simp only at post
        cases e2 : h.run ds sl1 with
        | none => rw [e2] at post; exact post.elim
        | some sl2 =>
          rw [e2] at post
          intro F2 H2 σ2 st2 hl2 hk2
          refine post F2 H2 σ2 (st1.trans st2) (hl2.trans hl1) fun i hi => ?_
          rw [List.mem_append, not_or] at hi
          obtain ⟨a1, a2⟩ := hk1 i hi.1
          obtain ⟨b1, b2⟩ := hk2 i hi.2
          exact ⟨b1.trans a1, b2.trans a2⟩
theorem PG.or {t1 t2 : TG} (h1 : PG X e t1) (h2 : PG X e t2) : PG X e (fun v σ H Q => t1 v σ H Q ∨ t2 v σ H Q) := ⟨fun pins s σ H v u Q I r q => q.elim (h1.run pins s σ H v u Q I r) (h2.run pins s σ H v u Q I r)⟩
theorem gtup_ok {k n : Nat} {h : C.GsDen} (hc : X.calm = true) (hs : PGs X es (rdGs X.K h)) (hn : (assignEach es X.env).length = n) (hst : (assignEach es X.env).findIdx? (·.1) = none) : PG X (.Tuple es k pos) (rdG X.K (C.gtup n h)) :=
  PG.imp (PG.or (pg_tup hc hs hn hst) (pg_unl hc hs hn hst)) fun v σ H Q ⟨F, sl, d, cor, rp, post⟩ => by
    cases d with
    | tup ds =>
      obtain ⟨a, xs, rfl, t, r⟩ := (show RepO X.K F H v (.tup ds) from .inl rp).tup
      have post : PostG X.K F H σ sl h.tch (if ds.length = n then h.run ds sl else none) Q := post
      split at post
      · rename_i hz
        exact .inl ⟨a, xs, rfl, sameT cor.ff t, r.length.trans hz, F, sl, ds, cor, r, post⟩
      · exact post.elim
    | lst ds =>
      obtain ⟨a, xs, rfl, t, r⟩ := (show RepO X.K F H v (.lst ds) from .inl rp).lst cor.ff
      have post : PostG X.K F H σ sl h.tch (if ds.length = n then h.run ds sl else none) Q := post
      split at post
      · rename_i hz
        exact .inr ⟨a, xs, rfl, .inl t, r.length.trans hz, F, sl, ds, cor, r, post⟩
      · exact post.elim
    | _ => exact post.elim
theorem asg_ok {tg : Expr} {g : GDen} (he : PE X e (rdE X.K xr wx da)) (hg : PG X tg (rdG X.K g)) (hs : swapsWithSole [tg] e pos.line X.env = pure false) (hw : swappedStores [tg] e X.env = pure none) (h1 : (assignEach [tg] X.env).map (·.2) = [assign tg X.env]) :
    PS X (.Assign [tg] e pos) (rdS X.K xr wx (C.asg g da)) := PS.imp (ps_asg he hg hs hw h1) fun E σ H ⟨F, sl, cor, post⟩ => by
  refine ⟨F, sl, cor, ?_⟩
  unfold C.asg at post
  cases e1 : da sl with
  | fail => rw [e1] at post; exact post.elim
  | exc x s => rw [e1] at post; exact fun F' H' cls d st hx => post F' H' σ cls d st hx
  | ok r sl1 =>
    rw [e1] at post
    simp only at post
    intro F1 H1 v1 st1 rv1
    cases e2 : frz r sl1 with
    | none => rw [e2] at post; exact post.elim
    | some q =>
      obtain ⟨d, sl2⟩ := q
      rw [e2] at post
      simp only at post
      obtain ⟨F2, st2, rp, _⟩ := frz_ok st1 rv1 e2
      refine ⟨F2, sl2, d, st2.cor, rp, ?_⟩
      cases e3 : g.run d sl2 with
      | none => rw [e3] at post; exact post.elim
      | some sl3 =>
        rw [e3] at post
        exact fun F3 H3 σ3 st3 _ _ => post F3 H3 σ3 (st2.trans st3)
/-! ### for -/
theorem for_ok {tg iter : Expr} {it : IDen} {g : GDen} {sb : SDen} {body : List Stmt} (hp : PassesOwn (model X.prog X.w) X.A X.env X.xe) (hc : X.calm = true) (hi : PI X tg iter (rdI X.K xr wx it)) (hg : PG X tg (rdG X.K g)) (hb : PSs X body (rdS X.K xr wx sb))
    (hs : ∀ x, foldedSetIterable iter X.env x = pure x) : PS X (.For tg iter body [] pos) (rdS X.K xr wx (C.forS g it sb)) := PS.imp (ps_for hp hc hi hg hb hs) fun E σ H ⟨F, sl, cor, post⟩ => by
  refine ⟨F, sl, cor, ?_⟩
  unfold C.forS at post
  cases e1 : it sl with
  | fail => rw [e1] at post; exact post.elim
  | exc x s => rw [e1] at post; exact fun F' H' cls d st hx => post F' H' σ cls d st hx
  | ok ds sl1 =>
    rw [e1] at post
    simp only at post
    intro F1 H1 J st1 hJ
    refine ⟨fun i m σ' H' => i + m = ds.length ∧ ∃ F' sl', Same F1 F' ∧ Step X.K F H σ sl F' H' σ' sl' ∧ PostS X.K xr wx F H σ sl (C.loop g sb (ds.drop i) sl') E, ⟨ds.length, by omega, F1, sl1, Same.refl _, st1, post⟩, ?_⟩
    rintro i m σ2 H2 ⟨hm, F2, sl2, sm, st2, p2⟩
    obtain ⟨j1, j2, j3⟩ := hJ F2 H2 sm st2.cor.ff i
    cases m with
    | zero =>
      refine .inl ⟨j2 (by omega), ?_⟩
      rw [List.drop_eq_nil_of_le (by omega)] at p2
      exact p2 F2 H2 σ2 st2
    | succ m =>
      have hi : i < ds.length := by omega
      refine .inr ⟨j1 hi, fun σ' H' => ∃ F' sl', Same F1 F' ∧ Step X.K F H σ sl F' H' σ' sl' ∧ PostS X.K xr wx F H σ sl (C.loop g sb (ds.drop (i + 1)) sl') E, fun σ' H' h => ⟨m, Nat.lt_succ_self m, by omega, h⟩, fun x H' hy => ?_⟩
      have hd : ds[i]? = some ds[i] := List.getElem?_eq_getElem hi
      obtain ⟨F3, gr, rp⟩ := j3 x H' _ hy hd
      have st3 := st2.grow gr
      rw [List.drop_eq_getElem_cons hi] at p2
      refine ⟨F3, sl2, ds[i], st3.cor, rp, ?_⟩
      have p2 : PostS X.K xr wx F H σ sl (match g.run ds[i] sl2 with
        | none => .fail
        | some sl1 => (match sb sl1 with
          | .nx sl2 => C.loop g sb (ds.drop (i + 1)) sl2
          | .ct sl2 => C.loop g sb (ds.drop (i + 1)) sl2
          | .bk sl2 => .nx sl2
          | r => r)) E := p2
      cases e2 : g.run ds[i] sl2 with
      | none => rw [e2] at p2; exact p2.elim
      | some sl4 =>
        rw [e2] at p2
        intro F4 H4 σ4 st4 _ _
        have st34 := st3.trans st4
        refine ⟨F4, sl4, st4.cor, ?_⟩
        have sm4 : Same F1 F4 := (sm.trans gr.ff).trans st4.ext.ff
        simp only at p2
        cases e3 : sb sl4 with
        | fail => rw [e3] at p2; exact p2.elim
        | exc x s => rw [e3] at p2; exact fun F5 H5 σ5 cls d st5 hx => p2 F5 H5 σ5 cls d (st34.trans st5) hx
        | nx s => rw [e3] at p2; exact fun F5 H5 σ5 st5 => ⟨F5, s, sm4.trans st5.ext.ff, st34.trans st5, p2⟩
        | ct s => rw [e3] at p2; exact fun F5 H5 σ5 st5 => ⟨F5, s, sm4.trans st5.ext.ff, st34.trans st5, p2⟩
        | bk s => rw [e3] at p2; exact fun F5 H5 σ5 st5 => p2 F5 H5 σ5 (st34.trans st5)
        | rt r s =>
          rw [e3] at p2
          exact PostS.from (res := .rt r s) st34 p2
end
end RF
set_option maxRecDepth 100000
namespace RF
open PySem PySem.Spec L2
/-! ### methods that change an open list; stores by place -/
@[simp] def cellSV : SV → Cell → Option SV
  | .own _, c => some (.own c)
  | .bref _, c => some (.bref c)
  | _, _ => none
namespace C
@[simp] def open? (sl : Sl) (i : Nat) : Bool := match sl[i]? with
  | some (some x) => x.open?.isSome
  | _ => false
/-- found.method(args) of an open list in the slot i -/
@[simp] def mcall2 (m : Cell → List D → Option (Cell × D)) (i : Nat) (rs : List RV) (sl1 : Sl) : ERes := match frzs rs sl1 with
  | some (ds, sl2) => (match sl2[i]? with
    | some (some x) => (match x.open? with
      | some c => (match m c ds with
        | some (c', d) => (match cellSV x c' with
          | some y => .ok (.v d) (sl2.set i (some y))
          | none => .fail)
        | none => .fail)
      | none => .fail)
    | _ => .fail)
  | none => .fail
def mcall (m : Cell → List D → Option (Cell × D)) (i : Nat) (a : ADen) : Den := fun sl => if open? sl i = true then (match a sl with
  | .ok rs sl1 => mcall2 m i rs sl1
  | .exc x s => .exc x s
  | .fail => .fail) else .fail
/-- slot[idx] = e -/
@[simp] def sset2 (i : Nat) (d : D) (r2 : RV) (sl3 : Sl) : SRes := match rd (opd r2) sl3 with
  | some (.int k) => (match sl3[i]? with
    | some (some y) => (match y.open? with
      | some (.lst ds) => (match ixD ds.length k with
        | some j => (match cellSV y (.lst (ds.set j d)) with
          | some z => .nx (sl3.set i (some z))
          | none => .fail)
        | none => .fail)
      | none => .fail)
    | _ => .fail)
  | _ => .fail
def sset (i : Nat) (x : Den) (e : Den) : SDen := fun sl => match e sl with
  | .ok r sl1 => (match frz r sl1 with
    | some (d, sl2) => if open? sl2 i = true then (match x sl2 with
      | .ok r2 sl3 => sset2 i d r2 sl3
      | .exc x s => .exc x s
      | .fail => .fail) else .fail
    | none => .fail)
  | .exc x s => .exc x s
  | .fail => .fail
end C
namespace M
@[simp] def append : Cell → List D → Option (Cell × D)
  | .lst ds, [d] => if ds.length < 16777216 then some (.lst (ds ++ [d]), .non) else none
  | _, _ => none
@[simp] def insert : Cell → List D → Option (Cell × D)
  | .lst ds, [.int i, d] => if ds.length < 16777216 ∧ 0 ≤ i ∧ i < 2 ^ 63 then some (.lst (ds.take i.toNat ++ [d] ++ ds.drop i.toNat), .non) else none
  | _, _ => none
@[simp] def pop : Cell → List D → Option (Cell × D)
  | .lst ds, [.int i] => if -(2 ^ 63) ≤ i ∧ i < 2 ^ 63 then (match ixD ds.length i with
    | some j => (match ds[j]? with
      | some d => some (.lst (ds.eraseIdx j), d)
      | none => none)
    | none => none) else none
  | _, _ => none
@[simp] def extend : Cell → List D → Option (Cell × D)
  | .lst ds, [.lst es] => if ds.length + es.length ≤ 16777216 then some (.lst (ds ++ es), .non) else none
  | _, _ => none
end M
def rM (K : PySem.W.Frag) (m : Cell → List D → Option (Cell × D)) : V → List V → Hp → VK → Prop := fun x vs H Q => ∃ F a c ds, x = .ref a ∧ Same F H ∧ CellAt K F H a c ∧ F a = none ∧ RepL K F vs ds ∧ match m c ds with
  | some (c', d) => ∀ H' v, (∀ b o, b ≠ a → H b = some o → H' b = some o) → (∀ b, H' b = none → H b = none) → CellAt K F H' a c' → Rep K F v d → Q v H'
  | none => False
section
variable {X : Cx} {xr : XRel} {wx : WX} {K : PySem.W.Frag} {F H F' H' H0 F0 : Hp} {σ σ0 : St} {sl sl' sl0 : Sl} {v : V} {d : D}
theorem upd_lst {a : Addr} {o : HO} {xs : List V} (e : H a = some (.lst xs)) : (∀ b z, b ≠ a → H b = some z → upd H a o b = some z) ∧ ∀ b, upd H a o b = none → H b = none := by
  refine ⟨fun b z hb q => by rw [upd_ne hb]; exact q, fun b q => ?_⟩
  by_cases hb : b = a
  · subst hb; rw [upd_same] at q; cases q
  · rw [upd_ne hb] at q; exact q
theorem m_append : MtR X "list.append" (rM X.K M.append) := fun pins s σ H x xs v us Q I rx rv h => by
  obtain ⟨F, a, c, ds, rfl, sm, ca, hF, r, q⟩ := h
  obtain ⟨es⟩ := c
  obtain ⟨ys, e, re⟩ := ca
  match ds, r, q with
  | [d], r, q =>
    have q : match (if es.length < 16777216 then some (Cell.lst (es ++ [d]), D.non) else none) with
      | some (c', d) => ∀ H' v, (∀ b o, b ≠ a → H b = some o → H' b = some o) → (∀ b, H' b = none → H b = none) → CellAt X.K F H' a c' → Rep X.K F v d → Q v H'
      | none => False := q
    split at q
    · rename_i c' d' he
      split at he
      · rename_i hz
        cases he
        cases r with
        | cons r1 r2 =>
          cases r2
          refine mt_append pins s σ H _ _ v us Q I rx rv ⟨a, ys, _, rfl, rfl, e, by rw [sizeLine_eq, re.length]; exact hz, q _ _ (upd_lst e).1 (upd_lst e).2 ⟨_, upd_same, re.append (.cons r1 .nil)⟩ .non⟩
      · cases he
    · exact q.elim
theorem m_insert : MtR X "list.insert" (rM X.K M.insert) := fun pins s σ H x xs v us Q I rx rv h => by
  obtain ⟨F, a, c, ds, rfl, sm, ca, hF, r, q⟩ := h
  obtain ⟨es⟩ := c
  obtain ⟨ys, e, re⟩ := ca
  match ds, r, q with
  | [.int i, d], r, q =>
    have q : match (if es.length < 16777216 ∧ 0 ≤ i ∧ i < 2 ^ 63 then some (Cell.lst (es.take i.toNat ++ [d] ++ es.drop i.toNat), D.non) else none) with
      | some (c', d) => ∀ H' v, (∀ b o, b ≠ a → H b = some o → H' b = some o) → (∀ b, H' b = none → H b = none) → CellAt X.K F H' a c' → Rep X.K F v d → Q v H'
      | none => False := q
    split at q
    · rename_i c' d' he
      split at he
      · rename_i hz
        cases he
        cases r with
        | cons r1 r2 =>
          cases r1
          cases r2 with
          | cons r2 r3 =>
            cases r3
            refine mt_insert pins s σ H _ _ v us Q I rx rv ⟨a, ys, i, _, rfl, rfl, e, by rw [sizeLine_eq, re.length]; exact hz.1, hz.2.1, hz.2.2, q _ _ (upd_lst e).1 (upd_lst e).2 ⟨_, upd_same, ((re.take _).append (.cons r2 .nil)).append (re.drop _)⟩ .non⟩
      · cases he
    · exact q.elim
theorem ixD_seq {n : Nat} {i : Int} {j : Nat} (h : ixD n i = some j) : seqIndex? i n = some j := (ixN_seq (show ixN n i = some j from h)).1
theorem m_pop : MtR X "list.pop" (rM X.K M.pop) := fun pins s σ H x xs v us Q I rx rv h => by
  obtain ⟨F, a, c, ds, rfl, sm, ca, hF, r, q⟩ := h
  obtain ⟨es⟩ := c
  obtain ⟨ys, e, re⟩ := ca
  match ds, r, q with
  | [.int i], r, q =>
    have q : match (if -(2 ^ 63) ≤ i ∧ i < 2 ^ 63 then (match ixD es.length i with
      | some j => (match es[j]? with
        | some d => some (Cell.lst (es.eraseIdx j), d)
        | none => none)
      | none => none) else none) with
      | some (c', d) => ∀ H' v, (∀ b o, b ≠ a → H b = some o → H' b = some o) → (∀ b, H' b = none → H b = none) → CellAt X.K F H' a c' → Rep X.K F v d → Q v H'
      | none => False := q
    split at q
    · rename_i c' d' he
      split at he
      · rename_i hz
        cases e1 : ixD es.length i with
        | none => rw [e1] at he; cases he
        | some j =>
          rw [e1] at he
          simp only at he
          cases e2 : es[j]? with
          | none => rw [e2] at he; cases he
          | some d =>
            rw [e2] at he
            cases he
            cases r with
            | cons r1 r2 =>
              cases r1
              cases r2
              obtain ⟨y, hy, ry⟩ := re.getD e2
              refine mt_popAt pins s σ H _ _ v us Q I rx rv ⟨a, ys, i, j, y, rfl, rfl, e, hz.1, hz.2, by rw [re.length]; exact ixD_seq e1, hy, q _ _ (upd_lst e).1 (upd_lst e).2 ⟨_, upd_same, re.eraseIdx _⟩ ry⟩
      · cases he
    · exact q.elim
theorem m_extend : MtR X "list.extend" (rM X.K M.extend) := fun pins s σ H x xs v us Q I rx rv h => by
  obtain ⟨F, a, c, ds, rfl, sm, ca, hF, r, q⟩ := h
  obtain ⟨es⟩ := c
  obtain ⟨ys, e, re⟩ := ca
  match ds, r, q with
  | [.lst fs], r, q =>
    have q : match (if es.length + fs.length ≤ 16777216 then some (Cell.lst (es ++ fs), D.non) else none) with
      | some (c', d) => ∀ H' v, (∀ b o, b ≠ a → H b = some o → H' b = some o) → (∀ b, H' b = none → H b = none) → CellAt X.K F H' a c' → Rep X.K F v d → Q v H'
      | none => False := q
    split at q
    · rename_i c' d' he
      split at he
      · rename_i hz
        cases he
        cases r with
        | cons r1 r2 =>
          cases r2
          cases r1 with
          | lst t r1 =>
            rename_i b zs
            have hB := sameR sm t
            obtain ⟨u, rfl, ru⟩ := rv.one
            cases rx
            cases ru
            obtain ⟨z, its, n, r3, hl, e3⟩ := I.lstM e
            obtain ⟨z2, its2, n2, r4, e4⟩ := hB.ok I.hok
            have l1 := re.length
            have l2 := r1.length
            have l3 := r4.length
            have hsz : its.toArray.size + its2.toArray.size ≤ sizeLine := by rw [List.size_toArray, List.size_toArray, sizeLine_eq]; omega
            have hlong : ¬ (!its.toArray.isEmpty && Builtin.List.listTooLong (its.toArray.size + its2.toArray.size)) = true := by
              rw [notLongL hsz, Bool.and_false]; decide
            refine call_meets PySem.F.slot_list_extend ⟨_, e3, rfl⟩ PySem.F.entry_list_extend (PySem.F.args_list_extend_2 _ _) (AutoSeq1.list_extend_list_list_0 a its.toArray n b its2.toArray n2 hlong (by rw [List.size_toArray, sizeLine_eq]; omega) (by omega)) ⟨e3, e4, ?_⟩
            refine ⟨.non, _, I.lset (its' := its ++ its2) e e3 (by simp) (r3.append r4) ?_, rfl, q _ _ (upd_lst e).1 (upd_lst e).2 ⟨_, upd_same, re.append r1⟩ .non⟩
            rw [List.length_append, sizeLine_eq]; omega
      · cases he
    · exact q.elim

/-- an open thing changes in its slot -/
theorem change_ok {i : Nat} {x y : SV} {c c' : Cell} {a : Addr} (st : Step K F0 H0 σ0 sl0 F H σ sl) (e : sl[i]? = some (some x)) (ho : x.open? = some c) (hv : σ[i]? = some (some (.ref a))) (hy : cellSV x c' = some y)
    (k1 : ∀ b o, b ≠ a → H b = some o → H' b = some o) (k2 : ∀ b, H' b = none → H b = none) (ca : CellAt K F H' a c') : Step K F0 H0 σ0 sl0 F H' σ (sl.set i (some y)) := by
  have me : OwnAt σ sl i a := ⟨x, c, e, ho, hv⟩
  have hi : i < sl.length := (List.getElem?_eq_some_iff.mp e).1
  obtain ⟨hF, _⟩ := st.cor.free ⟨i, me⟩
  have yo : y.open? = some c' := by cases x <;> cases hy <;> rfl
  have own : ∀ {j : Nat} {b : Addr}, OwnAt σ (sl.set i (some y)) j b → OwnAt σ sl j b := fun {j b} ⟨z, c2, e1, e2, e3⟩ => by
    by_cases hj : i = j
    · subst hj
      exact ⟨x, c, e, ho, e3⟩
    · rw [List.getElem?_set_ne hj] at e1
      exact ⟨z, c2, e1, e2, e3⟩
  refine st.trans ⟨⟨Same.refl F, fun b o q n => k1 b o (fun z => n (z ▸ ⟨i, me⟩)) q, k2, fun b z => .inl z⟩, ⟨fun b o q => k1 b o (fun z => by subst z; rw [hF] at q; cases q) (st.cor.ff b o q), by rw [List.length_set]; exact st.cor.len, fun j z q => ?_, fun j l b h1 h2 => st.cor.dj j l b (own h1) (own h2)⟩, fun b ⟨j, z⟩ => .inl ⟨j, own z⟩, fun j z q hz => ⟨rfl, ?_⟩⟩
  · by_cases hj : i = j
    · subst hj
      rw [List.getElem?_set_self hi] at q; cases q
      cases x with
      | val d => cases ho
      | bval d => cases ho
      | own d => cases hy; exact ⟨a, slot_join hv, ca, hF⟩
      | bref d => cases hy; exact ⟨a, slot_join hv, ca, hF⟩
    · rw [List.getElem?_set_ne hj] at q
      have k := st.cor.ok j z q
      cases z with
      | none => exact True.intro
      | some z =>
        cases z with
        | val d => exact k
        | bval d => exact k
        | own d =>
          obtain ⟨b, g1, g2, g3⟩ := k
          have hb : b ≠ a := fun w => by subst w; exact hj (st.cor.dj i j b me ⟨_, d, q, rfl, join_some g1⟩)
          exact ⟨b, g1, g2.mono (Same.refl F) fun o => k1 b o hb, g3⟩
        | bref d =>
          obtain ⟨b, g1, g2, g3⟩ := k
          have hb : b ≠ a := fun w => by subst w; exact hj (st.cor.dj i j b me ⟨_, d, q, rfl, join_some g1⟩)
          exact ⟨b, g1, g2.mono (Same.refl F) fun o => k1 b o hb, g3⟩
  · by_cases hj : i = j
    · subst hj
      rw [e] at q; cases q
      rw [List.getElem?_set_self hi]
      rcases hz with ⟨c, rfl⟩ | ⟨c, rfl⟩
      · cases hy; exact ⟨_, rfl, .inl ⟨_, rfl⟩⟩
      · cases ho
    · rw [List.getElem?_set_ne hj]
      exact ⟨z, q, hz⟩

theorem open_at {i : Nat} (cor : Corr K F H σ sl) (hop : C.open? sl i = true) : ∃ (x : SV) (a : Addr) (xs : List V) (ds : List D), sl[i]? = some (some x) ∧ x.open? = some (.lst ds) ∧ σ[i]? = some (some (.ref a)) ∧ H a = some (.lst xs) ∧ RepL K F xs ds ∧ F a = none := by
  unfold C.open? at hop
  cases q0 : sl[i]? with
  | none => rw [q0] at hop; cases hop
  | some x0 =>
    rw [q0] at hop
    cases x0 with
    | none => cases hop
    | some x0 =>
      have k := cor.at q0
      cases x0 with
      | val d => cases hop
      | bval d => cases hop
      | own d => obtain ⟨ds⟩ := d; obtain ⟨a, g1, ⟨xs, g2, g4⟩, g3⟩ := k; exact ⟨_, a, xs, ds, rfl, rfl, join_some g1, g2, g4, g3⟩
      | bref d => obtain ⟨ds⟩ := d; obtain ⟨a, g1, ⟨xs, g2, g4⟩, g3⟩ := k; exact ⟨_, a, xs, ds, rfl, rfl, join_some g1, g2, g4, g3⟩
theorem open_same {i : Nat} {x : SV} {c : Cell} {a : Addr} (cor : Corr K F H σ sl) (e : sl[i]? = some (some x)) (ho : x.open? = some c) (hv : σ[i]? = some (some (.ref a))) : CellAt K F H a c ∧ F a = none := by
  have k := cor.at e
  rw [slot_join hv] at k
  cases x with
  | val d => cases ho
  | bval d => cases ho
  | own d => cases ho; obtain ⟨b, g1, g2, g3⟩ := k; cases g1; exact ⟨g2, g3⟩
  | bref d => cases ho; obtain ⟨b, g1, g2, g3⟩ := k; cases g1; exact ⟨g2, g3⟩
theorem tyV_list {a : Addr} {xs : List V} (e : H a = some (.lst xs)) : tyV K "list" (.ref a) H := .inl ⟨rfl, xs, .inl (.inl e)⟩
theorem mcall_ok {o e : Expr} {es : List Expr} {name : Str} {apos cpos : Pos} {id : String} {i : Nat} {da : ADen} {m : Cell → List D → Option (Cell × D)} (op : opds da) (slot : Slot "list" name id) (hty : typeOf (.builtin id) = pure (.type "method_descriptor"))
    (hm : MtR X id (rM X.K m)) (ho : PE X o (tVar i)) (ha : PA X (e :: es) (rdA X.K xr wx da)) (hbase : attributeBase o name X.env (eval o X.env) = eval o X.env)
    (hfew : ((backTo cpos (starEach (e :: es) X.env)).all (fun x => !x.1) && (backToKw cpos (keywordEach [] X.env)).all (fun x => x.1.isSome)
      && decide ((e :: es).length + ([] : List Keyword).length + (if ([] : List Keyword).isEmpty then 0 else 1) < 30)) = true)
    (hline : (apos.endLine == cpos.line) = true) (hs : starEach (e :: es) X.env = (false, eval e X.env) :: starEach es X.env) (hplain : (backTo cpos (starEach es X.env)).any (·.1) = false) :
    PE X (.Call (.Attribute o name apos) (e :: es) [] cpos) (rdE X.K xr wx (C.mcall m i da)) :=
  PE.imp (pe_bm PySem.F.plainAttrs_list slot hty hm ho ha hbase hfew hline hs hplain) fun σ H Q ⟨F, sl, cor, post⟩ => by
    unfold C.mcall at post
    split at post
    · rename_i hop
      unfold C.open? at hop
      cases q0 : sl[i]? with
      | none => rw [q0] at hop; cases hop
      | some x0 =>
        rw [q0] at hop
        cases x0 with
        | none => cases hop
        | some x0 =>
          have hop : x0.open?.isSome = true := hop
          obtain ⟨c0, hc0⟩ := Option.isSome_iff_exists.mp hop
          obtain ⟨a, hv, ca0⟩ : ∃ a, σ[i]? = some (some (.ref a)) ∧ CellAt X.K F H a c0 := by
            have k := cor.at q0
            cases x0 with
            | val d => cases hc0
            | bval d => cases hc0
            | own d => cases hc0; obtain ⟨a, g1, g2, _⟩ := k; exact ⟨a, join_some g1, g2⟩
            | bref d => cases hc0; obtain ⟨a, g1, g2, _⟩ := k; exact ⟨a, join_some g1, g2⟩
          obtain ⟨ds0⟩ := c0
          obtain ⟨xs0, e0, _⟩ := ca0
          refine ⟨_, hv, tyV_list e0, F, sl, cor, ?_⟩
          cases e1 : da sl with
          | fail => rw [e1] at post; exact post.elim
          | exc x s => rw [e1] at post; exact post
          | ok rs sl1 =>
            rw [e1] at post
            simp only at post
            intro F1 H1 vs st1 rv1
            rw [← op _ _ _ e1] at rv1 post
            unfold C.mcall2 at post
            cases e2 : frzs (rs.map opd) sl1 with
            | none => rw [e2] at post; exact post.elim
            | some p =>
              obtain ⟨ds, sl2⟩ := p
              rw [e2] at post
              simp only at post
              obtain ⟨F2, st2, r2, _⟩ := frzs_ok st1 rv1 e2
              cases q2 : sl2[i]? with
              | none => rw [q2] at post; exact post.elim
              | some x =>
                cases x with
                | none => rw [q2] at post; exact post.elim
                | some x =>
                  rw [q2] at post
                  simp only at post
                  cases q3 : x.open? with
                  | none => rw [q3] at post; exact post.elim
                  | some c =>
                    rw [q3] at post
                    simp only at post
                    obtain ⟨ca, hF⟩ : CellAt X.K F2 H1 a c ∧ F2 a = none := by
                      have k := st2.cor.at q2
                      rw [slot_join hv] at k
                      cases x with
                      | val d => cases q3
                      | bval d => cases q3
                      | own d => cases q3; obtain ⟨a, g1, g2, g3⟩ := k; cases g1; exact ⟨g2, g3⟩
                      | bref d => cases q3; obtain ⟨a, g1, g2, g3⟩ := k; cases g1; exact ⟨g2, g3⟩
                    refine ⟨F2, a, c, ds, rfl, st2.cor.ff, ca, hF, r2, ?_⟩
                    cases q4 : m c ds with
                    | none => rw [q4] at post; exact post.elim
                    | some p =>
                      obtain ⟨c', d⟩ := p
                      rw [q4] at post
                      simp only at post
                      intro H' v k1 k2 ca' rp
                      cases q5 : cellSV x c' with
                      | none => rw [q5] at post; exact post.elim
                      | some y =>
                        rw [q5] at post
                        exact post F2 H' v (change_ok st2 q2 q3 hv q5 k1 k2 ca') rp
    · exact post.elim
/-! ### slot[idx] = e -/
theorem PO.imp {e : Option Expr} {t t' : TO} (h : PO X e t) (w : ∀ σ H Q, t' σ H Q → t σ H Q) : PO X e t' := ⟨fun pins s σ H Q I q => h.run pins s σ H Q I (w _ _ _ q)⟩
theorem sset_ok {i : Nat} {o ix e : Expr} {dx de : Den} {tpos pos : Pos} (he : PE X e (rdE X.K xr wx de)) (ho : PE X o (tVar i)) (hi : PE X ix (rdE X.K xr wx dx)) (hA : ∀ v, assign (.Subscript o ix tpos) X.env v = (do
      let ov ← holding [v] (eval o X.env)
      let iv ← holding [v, ov] (eval ix X.env)
      standAt tpos
      holding [v, ov, iv] (setItem ov iv v)
      release [v, ov, iv] []))
    (hs : swapsWithSole [.Subscript o ix tpos] e pos.line X.env = pure false) (hw : swappedStores [.Subscript o ix tpos] e X.env = pure none) (h1 : (assignEach [.Subscript o ix tpos] X.env).map (·.2) = [assign (.Subscript o ix tpos) X.env]) :
    PS X (.Assign [.Subscript o ix tpos] e pos) (rdS X.K xr wx (C.sset i dx de)) :=
  PS.imp (ps_asg he (pg_sub ho hi set_list hA) hs hw h1) fun E σ H ⟨F, sl, cor, post⟩ => by
    refine ⟨F, sl, cor, ?_⟩
    unfold C.sset at post
    cases e1 : de sl with
    | fail => rw [e1] at post; exact post.elim
    | exc x s => rw [e1] at post; exact fun F' H' cls d st hx => post F' H' σ cls d st hx
    | ok r sl1 =>
      rw [e1] at post
      simp only at post
      intro F1 H1 v1 st1 rv1
      cases e2 : frz r sl1 with
      | none => rw [e2] at post; exact post.elim
      | some q =>
        obtain ⟨d, sl2⟩ := q
        rw [e2] at post
        simp only at post
        obtain ⟨F2, st2, rp, _⟩ := frz_ok st1 rv1 e2
        split at post
        · rename_i hop
          obtain ⟨x0, a, xs0, ds0, q0, o0, hv, _⟩ := open_at st2.cor hop
          refine ⟨_, hv, F2, sl2, st2.cor, ?_⟩
          cases e3 : dx sl2 with
          | fail => rw [e3] at post; exact post.elim
          | exc x s => rw [e3] at post; exact fun F3 H3 cls d st3 hx => post F3 H3 σ cls d (st2.trans st3) hx
          | ok r2 sl3 =>
            rw [e3] at post
            simp only at post
            intro F3 H3 v3 st3 rv3
            obtain ⟨F4, st4, rv4, sm4⟩ := opd_ok st3 rv3
            have st24 := st2.trans st4
            unfold C.sset2 at post
            cases e4 : rd (opd r2) sl3 with
            | none => rw [e4] at post; exact post.elim
            | some k =>
              rw [e4] at post
              cases k with
              | int k =>
                simp only at post
                have hk := (rd_ok st4.cor rv4 e4).int
                subst hk
                cases q2 : sl3[i]? with
                | none => rw [q2] at post; exact post.elim
                | some y =>
                  cases y with
                  | none => rw [q2] at post; exact post.elim
                  | some y =>
                    rw [q2] at post
                    simp only at post
                    cases q3 : y.open? with
                    | none => rw [q3] at post; exact post.elim
                    | some c =>
                      obtain ⟨ds⟩ := c
                      rw [q3] at post
                      simp only at post
                      obtain ⟨⟨xs, g1, g2⟩, _⟩ := open_same st4.cor q2 q3 hv
                      cases q4 : ixD ds.length k with
                      | none => rw [q4] at post; exact post.elim
                      | some j =>
                        rw [q4] at post
                        simp only at post
                        cases q5 : cellSV y (.lst (ds.set j d)) with
                        | none => rw [q5] at post; exact post.elim
                        | some z =>
                          rw [q5] at post
                          refine ⟨a, xs, k, j, rfl, rfl, g1, by rw [g2.length]; exact q4, ?_⟩
                          exact post F4 _ σ (change_ok st24 q2 q3 hv q5 (upd_lst g1).1 (upd_lst g1).2 ⟨_, upd_same, g2.set (rp.mono st4.ext.ff) j⟩)
              | _ => exact post.elim
        · exact post.elim
end
end RF
set_option maxRecDepth 100000
namespace RF
open PySem PySem.Spec L2
/-! ### a, b = x, y -/
namespace C
def racons (a : Den) (b : ADen) : ADen := fun sl => match a sl with
  | .ok r sl1 => (match b sl1 with
    | .ok rs sl2 => .ok (r :: rs) sl2
    | .exc x s => .exc x s
    | .fail => .fail)
  | .exc x s => .exc x s
  | .fail => .fail
@[simp] def settles : List RV → Sl → Option (List RV × Sl)
  | [], sl => some ([], sl)
  | r :: rs, sl => match settle r sl with
    | some (r', sl1) => (match settles rs sl1 with
      | some (rs', sl2) => some (r' :: rs', sl2)
      | none => none)
    | none => none
@[simp] def puts : List Nat → List RV → Sl → Option Sl
  | [], [], sl => some sl
  | i :: is, r :: rs, sl => match put i r sl with
    | some sl1 => puts is rs sl1
    | none => none
  | _, _, _ => none
def par (is : List Nat) (a : ADen) : SDen := fun sl => match a sl with
  | .ok rs sl1 => (match settles rs sl1 with
    | some (rs', sl2) => (match puts is rs' sl2 with
      | some sl3 => .nx sl3
      | none => .fail)
    | none => .fail)
  | .exc x s => .exc x s
  | .fail => .fail
end C
def NoN (v : V) : List V → List RV → Prop
  | w :: ws, r :: rs => ((∃ c, r = .n c) → w ≠ v) ∧ NoN v ws rs
  | _, _ => True
def RVW (K : PySem.W.Frag) (H0 F H : Hp) (σ : St) (sl : Sl) : List V → List RV → Prop
  | [], [] => True
  | v :: vs, r :: rs => RVR K H0 F H σ sl v r ∧ ((∃ c, r = .n c) → NoN v vs rs) ∧ RVW K H0 F H σ sl vs rs
  | _, _ => False
section
variable (K : PySem.W.Frag) (xr : XRel) (wx : WX)
def PostW (F H : Hp) (σ : St) (sl : Sl) (res : ARes) (Q : List V → Hp → Prop) : Prop := match res with
  | .ok rs sl' => ∀ F' H' vs, Step K F H σ sl F' H' σ sl' → RVW K H F' H' σ sl' vs rs → Q vs H'
  | .exc x sl' => ∀ F' H' cls d, Step K F H σ sl F' H' σ sl' → xr cls d H' x → wx cls d σ H'
  | .fail => False
def rdW (d : ADen) : TA := fun σ H Q => ∃ F sl, Corr K F H σ sl ∧ PostW K xr wx F H σ sl (d sl) Q
end
section
variable {X : Cx} {xr : XRel} {wx : WX} {K : PySem.W.Frag} {F H F' H' H0 F0 F1 H1 : Hp} {σ σ0 : St} {sl sl' sl0 sl1 : Sl} {v : V} {d : D}
theorem RVR.stay {r : RV} (h : RVR K H0 F H σ sl v r) (st : Step K F H σ sl F1 H1 σ sl1) : RVR K H0 F1 H1 σ sl1 v r := by
  cases r with
  | v d => exact Rep.mono st.ext.ff h
  | s i => exact h
  | n c =>
    obtain ⟨a, e, ca, hF, no, h0⟩ := h
    obtain ⟨o, eo⟩ := ca.ex
    refine ⟨a, e, ca.mono st.ext.ff fun z q => st.ext.hh a z q no, none_of_not fun z => ?_, fun z => ?_, h0⟩
    · rcases st.ext.nw a z with q | q | q
      · exact q hF
      · rw [q] at eo; cases eo
      · exact no q
    · rcases st.own a z with q | q
      · exact no q
      · rw [q] at eo; cases eo
theorem RVW.stay : ∀ {vs : List V} {rs : List RV}, RVW K H0 F H σ sl vs rs → Step K F H σ sl F1 H1 σ sl1 → RVW K H0 F1 H1 σ sl1 vs rs
  | [], [], _, _ => True.intro
  | [], _ :: _, h, _ => h.elim
  | _ :: _, [], h, _ => h.elim
  | v :: vs, r :: rs, h, st => ⟨h.1.stay st, h.2.1, RVW.stay h.2.2 st⟩
theorem RVR.back {r : RV} (h : RVR K H1 F H σ sl v r) (b : ∀ a, H1 a = none → H0 a = none) : RVR K H0 F H σ sl v r := by
  cases r with
  | v d => exact h
  | s i => exact h
  | n c =>
    obtain ⟨a, e, ca, hF, no, h0⟩ := h
    exact ⟨a, e, ca, hF, no, b a h0⟩
theorem RVW.back : ∀ {vs : List V} {rs : List RV}, RVW K H1 F H σ sl vs rs → (∀ a, H1 a = none → H0 a = none) → RVW K H0 F H σ sl vs rs
  | [], [], _, _ => True.intro
  | [], _ :: _, h, _ => h.elim
  | _ :: _, [], h, _ => h.elim
  | v :: vs, r :: rs, h, b => ⟨h.1.back b, h.2.1, RVW.back h.2.2 b⟩
theorem RVW.non : ∀ {vs : List V} {rs : List RV} {a : Addr} {o : HO}, RVW K H1 F H σ sl vs rs → H1 a = some o → NoN (.ref a) vs rs
  | [], [], _, _, _, _ => True.intro
  | [], _ :: _, _, _, h, _ => h.elim
  | _ :: _, [], _, _, h, _ => h.elim
  | v :: vs, r :: rs, a, o, h, e => by
    refine ⟨fun ⟨c, ec⟩ z => ?_, RVW.non h.2.2 e⟩
    have h1 := h.1
    subst ec
    obtain ⟨b, e1, _, _, _, h0⟩ := h1
    rw [e1] at z
    cases z
    rw [e] at h0
    cases h0
theorem ranil_ok : PA X [] (rdW X.K xr wx C.anil) := PA.imp pa_nil fun σ H Q ⟨F, sl, cor, post⟩ => post F H [] (.refl cor) True.intro
theorem racons_ok {e : Expr} {es : List Expr} {da : Den} {d : ADen} (ha : PE X e (rdE X.K xr wx da)) (hr : PA X es (rdW X.K xr wx d)) (hs : starEach (e :: es) X.env = (false, eval e X.env) :: starEach es X.env) : PA X (e :: es) (rdW X.K xr wx (C.racons da d)) := PA.imp (pa_cons ha hr hs) fun σ H Q ⟨F, sl, cor, post⟩ => by
  refine ⟨F, sl, cor, ?_⟩
  unfold C.racons at post
  cases e1 : da sl with
  | fail => rw [e1] at post; exact post.elim
  | exc x s => rw [e1] at post; exact post
  | ok r sl1 =>
    rw [e1] at post
    simp only at post
    intro F1 H1 v1 st1 rv1
    refine ⟨F1, sl1, st1.cor, ?_⟩
    cases e2 : d sl1 with
    | fail => rw [e2] at post; exact post.elim
    | exc x s => rw [e2] at post; exact fun F2 H2 cls d st2 hx => post F2 H2 cls d (st1.trans st2) hx
    | ok rs sl2 =>
      rw [e2] at post
      intro F2 H2 vs st2 rv2
      refine post F2 H2 (v1 :: vs) (st1.trans st2) ⟨rv1.stay st2, fun ⟨c, ec⟩ => ?_, rv2.back st1.ext.th⟩
      subst ec
      obtain ⟨a, e, ca, _⟩ := rv1
      obtain ⟨o, eo⟩ := ca.ex
      rw [e]
      exact rv2.non eo
theorem settles_ok : ∀ {rs rs' : List RV} {vs : List V} {F : Hp} {sl sl' : Sl}, Corr K F H σ sl → RVW K H0 F H σ sl vs rs → C.settles rs sl = some (rs', sl') →
    ∃ F', Step K F H σ sl F' H σ sl' ∧ RVW K H0 F' H σ sl' vs rs' ∧ (∀ w, NoN w vs rs → NoN w vs rs')
  | [], rs', [], F, sl, sl', cor, _, e => by cases e; exact ⟨F, .refl cor, True.intro, fun _ h => h⟩
  | [], _, _ :: _, _, _, _, _, h, _ => h.elim
  | _ :: _, _, [], _, _, _, _, h, _ => h.elim
  | r :: rs, rs', v :: vs, F, sl, sl', cor, h, e => by
    unfold C.settles at e
    cases q : C.settle r sl with
    | none => rw [q] at e; cases e
    | some p =>
      obtain ⟨r1, sl1⟩ := p
      rw [q] at e
      simp only at e
      have one : ∃ F1, Step K F H σ sl F1 H σ sl1 ∧ RVR K H0 F1 H σ sl1 v r1 ∧ ((∃ c, r1 = .n c) → ∃ c, r = .n c) := by
        cases r with
        | v d => cases q; exact ⟨F, .refl cor, h.1, fun h => h⟩
        | n c => cases q; exact ⟨F, .refl cor, h.1, fun h => h⟩
        | s i =>
          have q : (frz (.s i) sl).map (fun p => (RV.v p.1, p.2)) = some (r1, sl1) := q
          cases q3 : frz (.s i) sl with
          | none => rw [q3] at q; cases q
          | some p =>
            rw [q3] at q
            cases q
            obtain ⟨F1, s1, rp, sm⟩ := frz_ok (v := v) (Step.refl cor) (r := .s i) h.1 (show frz (.s i) sl = some (p.1, p.2) from q3)
            exact ⟨F1, s1, rp, fun ⟨c, z⟩ => nomatch z⟩
      obtain ⟨F1, s1, rv1, hn⟩ := one
      cases q2 : C.settles rs sl1 with
      | none => rw [q2] at e; cases e
      | some p =>
        obtain ⟨rs1, sl2⟩ := p
        rw [q2] at e
        cases e
        obtain ⟨F2, s2, rv2, hk⟩ := settles_ok s1.cor (h.2.2.stay s1) q2
        exact ⟨F2, s1.trans s2, ⟨rv1.stay s2, fun z => hk v (h.2.1 (hn z)), rv2⟩, fun w z => ⟨fun z2 => z.1 (hn z2), hk w z.2⟩⟩
def sets : St → List Nat → List V → St
  | σ, i :: is, v :: vs => sets (σ.set i (some v)) is vs
  | σ, _, _ => σ
theorem put_stay {i : Nat} {r q : RV} {w : V} (h : RVR K H0 F H σ sl w q) (hq : ∀ j, q ≠ .s j) (e : C.put i r sl = some sl') (hn : (∃ c, r = .n c) → (∃ c, q = .n c) → w ≠ v) (hl : σ.length = sl.length) : RVR K H0 F H (σ.set i (some v)) sl' w q := by
  cases q with
  | v d => exact h
  | s j => exact absurd rfl (hq j)
  | n c =>
    obtain ⟨a, e1, ca, hF, no, h0⟩ := h
    refine ⟨a, e1, ca, hF, fun ⟨j, x, c', f1, f2, f3⟩ => ?_, h0⟩
    unfold C.put at e
    split at e
    · rename_i hf
      obtain ⟨hi, _⟩ := free_some hf
      cases r with
      | s k => cases e
      | v d =>
        cases e
        by_cases hj : i = j
        · subst hj; rw [List.getElem?_set_self hi] at f1; cases f1; cases f2
        · rw [List.getElem?_set_ne hj] at f1 f3
          exact no ⟨j, x, c', f1, f2, f3⟩
      | n d =>
        cases e
        by_cases hj : i = j
        · subst hj
          rw [List.getElem?_set_self (by omega)] at f3; cases f3
          exact hn ⟨_, rfl⟩ ⟨_, rfl⟩ e1
        · rw [List.getElem?_set_ne hj] at f1 f3
          exact no ⟨j, x, c', f1, f2, f3⟩
    · cases e
def noS : List RV → Prop
  | [] => True
  | r :: rs => (∀ j, r ≠ .s j) ∧ noS rs
theorem settles_noS : ∀ {rs rs' : List RV} {sl sl' : Sl}, C.settles rs sl = some (rs', sl') → noS rs'
  | [], rs', sl, sl', e => by cases e; exact True.intro
  | r :: rs, rs', sl, sl', e => by
    unfold C.settles at e
    cases q : C.settle r sl with
    | none => rw [q] at e; cases e
    | some p =>
      obtain ⟨r1, sl1⟩ := p
      rw [q] at e
      simp only at e
      cases q2 : C.settles rs sl1 with
      | none => rw [q2] at e; cases e
      | some p =>
        obtain ⟨rs1, sl2⟩ := p
        rw [q2] at e
        cases e
        refine ⟨fun j z => ?_, settles_noS q2⟩
        cases r with
        | v d => cases q; cases z
        | n c => cases q; cases z
        | s i =>
          have q : (frz (.s i) sl).map (fun p => (RV.v p.1, p.2)) = some (r1, sl1) := q
          cases q3 : frz (.s i) sl with
          | none => rw [q3] at q; cases q
          | some p => rw [q3] at q; cases q; cases z
theorem puts_ok : ∀ {is : List Nat} {rs : List RV} {vs : List V} {σ : St} {sl sl' : Sl}, Step K F0 H0 σ0 sl0 F H σ sl → RVW K H0 F H σ sl vs rs → noS rs → C.puts is rs sl = some sl' → Step K F0 H0 σ0 sl0 F H (sets σ is vs) sl'
  | [], [], [], σ, sl, sl', st, _, _, e => by cases e; exact st
  | [], [], _ :: _, _, _, _, _, h, _, _ => h.elim
  | _, _ :: _, [], _, _, _, _, h, _, _ => h.elim
  | [], _ :: _, _ :: _, _, _, _, _, _, _, e => by cases e
  | _ :: _, [], _, _, _, _, _, _, _, e => by cases e
  | i :: is, r :: rs, v :: vs, σ, sl, sl', st, h, ns, e => by
    have e : (match C.put i r sl with | some sl1 => C.puts is rs sl1 | none => none) = some sl' := e
    cases q : C.put i r sl with
    | none => rw [q] at e; cases e
    | some sl1 =>
      rw [q] at e
      have st1 := (put_ok st h.1 q).1
      have rest : ∀ {ws : List V} {qs : List RV}, RVW K H0 F H σ sl ws qs → noS qs → ((∃ c, r = .n c) → NoN v ws qs) → RVW K H0 F H (σ.set i (some v)) sl1 ws qs := fun {ws} => by
        induction ws with
        | nil => intro qs hw _ _; cases qs <;> exact hw
        | cons w ws ih =>
          intro qs hw hs hn
          cases qs with
          | nil => exact hw
          | cons p qs => exact ⟨put_stay hw.1 hs.1 q (fun z1 z2 => (hn z1).1 z2) st.cor.len, hw.2.1, ih hw.2.2 hs.2 fun z => (hn z).2⟩
      have done := puts_ok (is := is) (rs := rs) (vs := vs) st1 (rest h.2.2 ns.2 h.2.1) ns.2 e
      exact done
theorem par_step {is : List Nat} {da : ADen} {E : Ends} (h : rdS K xr wx (C.par is da) E σ H) : rdW K xr wx da σ H fun vs H1 => E.nx (sets σ is vs) H1 := by
  obtain ⟨F, sl, cor, post⟩ := h
  refine ⟨F, sl, cor, ?_⟩
  unfold C.par at post
  cases e1 : da sl with
  | fail => rw [e1] at post; exact post.elim
  | exc x s => rw [e1] at post; exact fun F' H' cls d st hx => post F' H' σ cls d st hx
  | ok rs sl1 =>
    rw [e1] at post
    simp only at post
    intro F1 H1 vs st1 rv1
    cases e2 : C.settles rs sl1 with
    | none => rw [e2] at post; exact post.elim
    | some p =>
      obtain ⟨rs', sl2⟩ := p
      rw [e2] at post
      simp only at post
      obtain ⟨F2, st2, rv2, _⟩ := settles_ok st1.cor rv1 e2
      cases e3 : C.puts is rs' sl2 with
      | none => rw [e3] at post; exact post.elim
      | some sl3 =>
        rw [e3] at post
        exact post F2 H1 _ (puts_ok (st1.trans st2) rv2 (settles_noS e2) e3)
theorem RVW.len : ∀ {vs : List V} {rs : List RV}, RVW K H0 F H σ sl vs rs → vs.length = rs.length
  | [], [], _ => rfl
  | [], _ :: _, h => h.elim
  | _ :: _, [], h => h.elim
  | v :: vs, r :: rs, h => by rw [List.length_cons, List.length_cons, RVW.len h.2.2]
theorem par2_ok {i j : Nat} {x y : Str} {a b : Expr} {da : ADen} {px py pt pos : Pos} {kt k2 pt2} (hc : X.calm = true) (hN : X.N.Nodup) (hi : X.N[i]? = some x) (hj : X.N[j]? = some y) (hij : i ≠ j)
    (hx : X.env.scope.names.lookup x = some .local) (hy : X.env.scope.names.lookup y = some .local) (ha : PA X [a, b] (rdW X.K xr wx da)) (hl : ∀ sl rs sl', da sl = .ok rs sl' → rs.length = 2)
    (hw : swappedStores [.Tuple [.Name x px, .Name y py] kt pt] (.Tuple [a, b] k2 pt2) X.env = pure (some [x, y])) (hs : swapsWithSole [.Tuple [.Name x px, .Name y py] kt pt] (.Tuple [a, b] k2 pt2) pos.line X.env = pure false) :
    PS X (.Assign [.Tuple [.Name x px, .Name y py] kt pt] (.Tuple [a, b] k2 pt2) pos) (rdS X.K xr wx (C.par [i, j] da)) := PS.imp (ps_par hc hN hi hj hij hx hy ha hw hs) fun E σ H h => by
  obtain ⟨F, sl, cor, post⟩ := par_step h
  refine ⟨F, sl, cor, ?_⟩
  cases e1 : da sl with
  | fail => rw [e1] at post; exact post.elim
  | exc x s => rw [e1] at post; exact post
  | ok rs sl1 =>
    rw [e1] at post
    intro F1 H1 vs st1 rv1
    have h2 := rv1.len.trans (hl _ _ _ e1)
    match vs, h2, rv1 with
    | [v, w], _, rv1 => exact ⟨v, w, rfl, post F1 H1 [v, w] st1 rv1⟩
theorem par3_ok {i j l : Nat} {x y z : Str} {a b c : Expr} {da : ADen} {px py pz pt pos : Pos} {kt k2 pt2} (hc : X.calm = true) (hN : X.N.Nodup) (hi : X.N[i]? = some x) (hj : X.N[j]? = some y) (hl' : X.N[l]? = some z) (hij : i ≠ j) (hil : i ≠ l) (hjl : j ≠ l)
    (hx : X.env.scope.names.lookup x = some .local) (hy : X.env.scope.names.lookup y = some .local) (hz : X.env.scope.names.lookup z = some .local) (ha : PA X [a, b, c] (rdW X.K xr wx da)) (hl : ∀ sl rs sl', da sl = .ok rs sl' → rs.length = 3)
    (hw : swappedStores [.Tuple [.Name x px, .Name y py, .Name z pz] kt pt] (.Tuple [a, b, c] k2 pt2) X.env = pure (some [x, y, z])) (hs : swapsWithSole [.Tuple [.Name x px, .Name y py, .Name z pz] kt pt] (.Tuple [a, b, c] k2 pt2) pos.line X.env = pure false) :
    PS X (.Assign [.Tuple [.Name x px, .Name y py, .Name z pz] kt pt] (.Tuple [a, b, c] k2 pt2) pos) (rdS X.K xr wx (C.par [i, j, l] da)) := PS.imp (ps_par3 hc hN hi hj hl' hij hil hjl hx hy hz ha hw hs) fun E σ H h => by
  obtain ⟨F, sl, cor, post⟩ := par_step h
  refine ⟨F, sl, cor, ?_⟩
  cases e1 : da sl with
  | fail => rw [e1] at post; exact post.elim
  | exc x s => rw [e1] at post; exact post
  | ok rs sl1 =>
    rw [e1] at post
    intro F1 H1 vs st1 rv1
    have h2 := rv1.len.trans (hl _ _ _ e1)
    match vs, h2, rv1 with
    | [u, v, w], _, rv1 => exact ⟨u, v, w, rfl, post F1 H1 [u, v, w] st1 rv1⟩
end
end RF
set_option maxRecDepth 100000
namespace RF
open PySem PySem.Spec L2
/-! ### enumerate of a tuple -/
set_option maxHeartbeats 1000000 in
theorem meets_enum1 {v : Value} {o : Obj} {H : Heap → Prop} (B : Begins v o H) :
    Meets (Builtin.«enumerate.__new__» ⟨[.type "enumerate", v], []⟩) (fun _ R s => H s.heap ∧
      R (.ok (.ret (.ref (s.heap.push o).objs.size))) { s with heap := (s.heap.push o).push { cls := .type "enumerate", data := .fields #[.none, .bool false, .ref s.heap.objs.size, rawInt 0, .none, .none] } }) :=
  .of_wp fun prog w A R s h => by
    obtain ⟨hp, g, d, tk, os⟩ := s; obtain ⟨h1, h⟩ := h
    have hsub := sub_enumerate
    have q1 : ∀ {A' : Around} {E : Value → Shared → Prop} {Q : Value → Shared → Prop}, Q (.ref hp.objs.size) ⟨hp.push o, g, d, tk, os⟩ → wpAny (model prog w) A' (pyIter v) Q E ⟨hp, g, d, tk, os⟩ :=
      fun q => B.iter prog w _ _ ⟨hp, g, d, tk, os⟩ _ h1 q
    wp_walk using q1
    refine wpAny_stack_any fun st => wpAny_pure ?_
    split
    · rename_i c _ _ _ _ _
      cases (c == Value.type "enumerate")
      · wp_walk using q1
        exact ⟨_, rfl, h⟩
      · wp_walk using q1
        exact ⟨_, rfl, h⟩
    · wp_walk using q1
      exact ⟨_, rfl, h⟩
section
variable {prog : Program} {w : World} {A : Around} {E : Value → Shared → Prop} {s : Shared}
theorem enum_one {v : Value} {o : Obj} {H : Heap → Prop} {Q : Value → Shared → Prop} (B : Begins v o H) (h1 : H s.heap)
    (h : ∀ h', IsEnum h' (s.heap.objs.size + 1) s.heap.objs.size 0 .none → h'.get? s.heap.objs.size = some o → h'.objs.size = s.heap.objs.size + 2 →
      (∀ b o, s.heap.get? b = some o → h'.get? b = some o) → Q (.ref (s.heap.objs.size + 1)) { s with heap := h' }) :
    wpAny (model prog w) A (call (.type "enumerate") [v]) Q E s := by
  refine callType_new F.called_enumerate (by decide) (F.typeCall_enumerate_1 _) (F.newCall_enumerate_1 _) (fun obj => F.args_object_init_2 obj _) F.entry_enumerate_new
    (meets_enum1 B) ⟨h1, ?_⟩
  have hz : (s.heap.push o).objs.size = s.heap.objs.size + 1 := Heap.size_push ..
  show _ ∧ _
  rw [hz]
  have he : IsEnum ((s.heap.push o).push { cls := .type "enumerate", data := .fields #[.none, .bool false, .ref s.heap.objs.size, rawInt 0, .none, .none] }) (s.heap.objs.size + 1) s.heap.objs.size 0 .none := by
    have := Heap.get?_push_size (s.heap.push o) (o := { cls := .type "enumerate", data := .fields #[.none, .bool false, .ref s.heap.objs.size, rawInt 0, .none, .none] }) rfl
    rw [hz] at this; exact this
  exact ⟨⟨_, he, rfl⟩, h _ he (Heap.get?_push_of_some _ (Heap.get?_push_size _ B.free)) (by rw [Heap.size_push, hz]) fun b o x => Heap.get?_push_of_some _ (Heap.get?_push_of_some _ x)⟩
end
/-- the tuple at a, each item in a new pair -/
def IteT (K : PySem.W.Frag) (a : Addr) : It :=
  ⟨fun i H => ∃ (xs : List V) (x : V), SqT K H a xs ∧ xs[i]? = some x, fun i H v H' => ∃ T x, v = .ref T ∧ H T = none ∧ H' = upd H T (.tup [.int (i : Nat), x]) ∧ ∀ xs, SqT K H a xs → xs[i]? = some x, fun i H => ∃ xs : List V, SqT K H a xs ∧ xs.length = i⟩
theorem turn_enumT {P : Program} {w : World} {K : PySem.W.Frag} {elts : List Expr} {kk : Nat} {tpos : Pos} (a e it : Addr) :
    Turn P w K (.Tuple elts kk tpos) (IteT K a) [e, it] e (fun i h => (∃ old, IsEnum h e it ((i : Nat) : Int) old) ∧ h.IsTupleIter it a i ∧ e ≠ it ∧ e ≠ a ∧ it ≠ a) where
  mem := by simp
  obj := fun i h st b hb => by
    obtain ⟨⟨old, he⟩, ⟨o, ho, hc, hd⟩, _⟩ := st
    have e' : b = e ∨ b = it := by simpa using hb
    rcases e' with z | z
    · rw [z]; exact ⟨_, he, fun v q => nomatch q⟩
    · rw [z]; exact ⟨o, ho, fun v q => by rw [hd] at q; cases q⟩
  keep := fun i h h' st k => let ⟨⟨old, he⟩, hi, hne⟩ := st; ⟨⟨old, k e (by simp) _ he⟩, hi.at fun o q => k it (by simp) o q, hne⟩
  item := by
    intro X hP hw hK hc i pins s σ H E I hf st hg
    subst hP hw hK
    obtain ⟨⟨old, he⟩, hit, hne, ha1, ha2⟩ := st
    obtain ⟨xs, x, hq, hx⟩ := hg
    obtain ⟨its, rv, p, hz⟩ := I.tuple hq
    obtain ⟨u, hu, ru⟩ := rv.get hx
    have hel : e < s.heap.objs.size := Heap.lt_size he
    have hil : it < s.heap.objs.size := by obtain ⟨_, q, _⟩ := hit; exact Heap.lt_size q
    have pt : s.heap.IsTuple a its.toArray := p
    have hlt : i < its.toArray.size := by rw [List.size_toArray]; exact (List.getElem?_eq_some_iff.mp hu).1
    have hh : X.A.in1.handled = none := by simp [I.ok.hd hc]
    have hef : e ∉ [it, a] := by
      simp only [List.mem_cons, List.not_mem_nil, or_false, not_or]
      exact ⟨hne, ha1⟩
    refine wpAny_pyNext_enum_itemD (Draws.tuple hh it a (Ne.symm ha2) its.toArray) he ⟨hit, pt⟩ hlt hne hef fun x' h' tk hP ho hs' hT hsz hk => ?_
    have ex : x' = u := by
      have z : its.toArray[i]? = some u := by simpa using hu
      rw [z] at hP
      exact (Option.some.inj hP).symm
    subst ex
    refine ⟨_, rfl, wpAny_letOwnedTupleGo_enum (s := { s with heap := h', toks := tk + 1 }) ho fun h'' he' sb => ?_⟩
    have hT2 : h''.get? s.heap.objs.size = some { cls := .type "tuple", data := .seq #[.int i tk, x'] } := (sb.2 _ (Nat.ne_of_gt hel)).trans hT
    have new : ObjOk X.prog X.w (upd H s.heap.objs.size (.tup [.int (i : Nat), x])) h'' s.heap.objs.size (.tup [.int (i : Nat), x]) :=
      ⟨by show 2 ≤ sizeLine; decide, [.int i tk, x'], .cons ⟨_, rfl⟩ (.cons ru .nil), ⟨_, hT2, rfl, _, rfl⟩⟩
    have I1 : Inv X pins σ (upd H s.heap.objs.size (.tup [.int (i : Nat), x])) { s with heap := h'', toks := tk + 1 } :=
      I.turnedNew (ch := [e, it]) (fun b ob hb q => (sb.2 b (fun z => hb (by simp [z]))).trans (hk b ob (fun z => hb (by simp [z])) (fun z => hb (by simp [z])) q)) hf (Nat.le_refl _) new
    refine ⟨.ref s.heap.objs.size, _, I1, rfl, ⟨_, x, rfl, I.hok.fresh (Nat.le_refl _), rfl, fun ys hy => by rw [I.tuple_inj hy hq]; exact hx⟩, ⟨⟨x', ?_⟩, hs'.1.at fun o q => (sb.2 it (Ne.symm hne)).trans q, hne, ha1, ha2⟩, fun b hb => ?_⟩
    · have e1 : ((i + 1 : Nat) : Int) = (i : Int) + 1 := by omega
      rw [e1]; exact he'
    · have hb' : b < s.heap.objs.size := by
        have e' : b = e ∨ b = it := by simpa using hb
        rcases e' with z | z
        · rw [z]; exact hel
        · rw [z]; exact hil
      rw [upd_ne (Nat.ne_of_lt hb')]
      exact (hf b hb).1
  done := by
    intro X hP hw hK hc i pins s σ H E I hf st hg
    subst hP hw hK
    obtain ⟨⟨old, he⟩, hit, hne, ha1, ha2⟩ := st
    obtain ⟨xs, hq, hx⟩ := hg
    obtain ⟨its, rv, p, hz⟩ := I.tuple hq
    obtain ⟨f0, f1, f2, f3, f4, f5⟩ := hf it (by simp)
    have hl := rv.length
    have hh : X.A.in1.handled = none := by simp [I.ok.hd hc]
    have pt : s.heap.IsTuple a its.toArray := p
    have ei : its.toArray.size = i := by rw [List.size_toArray]; omega
    have hst : s.heap.IsTupleIter it a its.toArray.size ∧ s.heap.IsTuple a its.toArray := ⟨by rw [ei]; exact hit, pt⟩
    exact wpAny_pyNext_enum_endD (Draws.tuple hh it a (Ne.symm ha2) its.toArray) he hst fun h' eb => ⟨rfl, I.turned (t' := s.toks) (fun b o hb q => eb b o hb q) f0 f1 f3 f4 f5⟩
  self := fun A i s Q E st h => let ⟨⟨_, he⟩, _⟩ := st; wpAny_pyIter_enum he h
def iEnumA (K : PySem.W.Frag) (ta : TA) : TI := fun σ H R => ta σ H fun vs H1 => ∃ a xs, vs = [.ref a] ∧ SqT K H1 a xs ∧ R (IteT K a) H1
theorem pi_enumT {X : Cx} {e : Expr} {ta : TA} {p pos tpos : Pos} {elts : List Expr} {kk : Nat} (hg : Gl X "enumerate") (hm : X.mg "enumerate" = none) (ha : PA X [e] ta) (hs : starEach [e] X.env = [(false, eval e X.env)]) :
    PI X (.Tuple elts kk tpos) (.Call (.Name "enumerate" p) [e] [] pos) (iEnumA X.K ta) := by
  refine ⟨fun pins s σ H R I h => ?_⟩
  refine PyProof.Rows.Call_ (ld_blt I hg hm (by decide +kernel : bootBuiltins "enumerate" = some (.type "enumerate")) (PyProof.Rows.callWith_type1 (thn (ha.run pos pins s σ H _ I h) fun us s1 ⟨vs, H1, I1, r1, q1⟩ => ?_) hs rfl))
  obtain ⟨a, xs, ex, hq, q⟩ := q1
  subst ex
  cases r1 with
  | cons r rr =>
    cases rr
    cases r
    obtain ⟨its, rv, p', hz⟩ := I1.tuple hq
    have pt : s1.heap.IsTuple a its.toArray := p'
    have al : a < s1.heap.objs.size := by obtain ⟨o, ho, _⟩ := pt; exact Heap.lt_size ho
    refine enum_one (begins_tuple a its.toArray) pt fun h' he hit hsz hk => wpAny_pyIter_enum he ?_
    have I2 : Inv X pins σ H1 { s1 with heap := h' } := I1.kept (t' := s1.toks) hk
    refine ⟨s1.heap.objs.size + 1, [s1.heap.objs.size + 1, s1.heap.objs.size], _, _, H1, rfl, I2, turn_enumT a (s1.heap.objs.size + 1) s1.heap.objs.size, ⟨⟨.none, he⟩, ⟨_, hit, rfl, rfl⟩, Nat.succ_ne_self _, Nat.ne_of_gt (Nat.lt_succ_of_lt al), Nat.ne_of_gt al⟩, fun b hb => ?_, q⟩
    have e' : b = s1.heap.objs.size + 1 ∨ b = s1.heap.objs.size := by simpa using hb
    have hle : s1.heap.objs.size ≤ b := by
      rcases e' with z | z
      · rw [z]; exact Nat.le_add_right _ _
      · rw [z]; exact Nat.le_refl _
    exact I1.fpOk hle (I1.hok.fresh hle)
end RF
set_option maxRecDepth 100000
namespace RF
open PySem PySem.Spec L2
/-! ### what is walked -/
def rangeD (lo : Int) (n : Nat) : List D := (List.range n).map fun (i : Nat) => .int (lo + (i : Int))
def rangeDC (lo c : Int) (n : Nat) : List D := (List.range n).map fun (i : Nat) => .int (lo + (i : Int) * c)
@[simp] def zipD : List D → List D → List D
  | d :: ds, e :: es => .tup [d, e] :: zipD ds es
  | _, _ => []
@[simp] def enumD (k : Nat) : List D → List D
  | [] => []
  | d :: ds => .tup [.int (k : Int), d] :: enumD (k + 1) ds
def charsD (s : Str) : List D := s.cps.toList.map fun c => .str ⟨#[c]⟩
namespace C
def iter (e : Den) : IDen := fun sl => match e sl with
  | .ok r sl1 => (match frz r sl1 with
    | some (.lst ds, sl2) => .ok ds sl2
    | some (.tup ds, sl2) => .ok ds sl2
    | some (.str s, sl2) => .ok (charsD s) sl2
    | _ => .fail)
  | .exc x s => .exc x s
  | .fail => .fail
/-- not by Int's own comparison: with a length in it the kernel would go down by ones -/
def okR : Int → Bool
  | .ofNat n => Nat.ble n 4611686018427387903
  | .negSucc n => Nat.ble n 4611686018427387903
@[simp] theorem okR_eq (i : Int) : okR i = (decide (-4611686018427387904 ≤ i) && decide (i < 4611686018427387904)) := by
  rw [Bool.eq_iff_iff, Bool.and_eq_true, decide_eq_true_eq, decide_eq_true_eq]
  cases i with
  | ofNat n =>
    show Nat.ble n 4611686018427387903 = true ↔ -4611686018427387904 ≤ ((n : Nat) : Int) ∧ ((n : Nat) : Int) < 4611686018427387904
    rw [Nat.ble_eq]; omega
  | negSucc n =>
    show Nat.ble n 4611686018427387903 = true ↔ _
    rw [Nat.ble_eq, Int.negSucc_eq]; omega
/-- an argument list's frozen data, to a walk -/
def iterA (f : List D → Option (List D)) (a : ADen) : IDen := fun sl => match a sl with
  | .ok rs sl1 => (match frzs rs sl1 with
    | some (ds, sl2) => (match f ds with
      | some es => .ok es sl2
      | none => .fail)
    | none => .fail)
  | .exc x s => .exc x s
  | .fail => .fail
end C
namespace W
@[simp] def range1 : List D → Option (List D)
  | [.int j] => if C.okR j = true then some (rangeD 0 j.toNat) else none
  | _ => none
@[simp] def range2 : List D → Option (List D)
  | [.int i, .int j] => if (C.okR i && C.okR j) = true then some (rangeD i (j - i).toNat) else none
  | _ => none
@[simp] def range3 : List D → Option (List D)
  | [.int i, .int j, .int c] => if (decide (c = -1) && C.okR i && C.okR j) = true then some (rangeDC i (-1) (i - j).toNat) else none
  | _ => none
@[simp] def enum : List D → Option (List D)
  | [.lst ds] => some (enumD 0 ds)
  | [.tup ds] => some (enumD 0 ds)
  | _ => none
@[simp] def zip : List D → Option (List D)
  | [.lst ds, .lst es] => some (zipD ds es)
  | [.tup ds, .tup es] => some (zipD ds es)
  | _ => none
@[simp] def reversed : List D → Option (List D)
  | [.lst ds] => some ds.reverse
  | [.tup ds] => some ds.reverse
  | _ => none
end W
section
variable {X : Cx} {xr : XRel} {wx : WX} {K : PySem.W.Frag} {F H F' H' H0 F0 F1 H1 : Hp} {σ σ0 : St} {sl sl' sl0 sl1 : Sl} {v : V} {d : D}
theorem it_list {a : Addr} {xs : List V} {ds : List D} (t : Rd F a (.lst xs)) (r : RepL K F xs ds) : ItOk K F (Itl K a) ds := fun F1 H1 s1 s2 i => by
  have t1 : SqL K H1 a xs := .inl (sameR (s1.trans s2) t)
  have hl := r.length
  refine ⟨fun hi => ?_, fun hi => ⟨xs, t1, by omega⟩, fun x H' d hy e => ?_⟩
  · have hx : i < xs.length := by omega
    exact ⟨xs, xs[i], t1, List.getElem?_eq_getElem hx⟩
  · obtain ⟨rfl, hx⟩ := hy
    obtain ⟨w, h1, h2⟩ := r.getD e
    have e2 := hx xs t1
    rw [h1] at e2
    cases e2
    exact ⟨F1, Grow.refl s2, h2.mono s1⟩
theorem it_tup {a : Addr} {xs : List V} {ds : List D} (t : SqT K F a xs) (r : RepL K F xs ds) : ItOk K F (Itt K a) ds := fun F1 H1 s1 s2 i => by
  have t1 : SqT K H1 a xs := sameT (s1.trans s2) t
  have hl := r.length
  refine ⟨fun hi => ?_, fun hi => ⟨xs, t1, by omega⟩, fun x H' d hy e => ?_⟩
  · have hx : i < xs.length := by omega
    exact ⟨xs, xs[i], t1, List.getElem?_eq_getElem hx⟩
  · obtain ⟨rfl, hx⟩ := hy
    obtain ⟨w, h1, h2⟩ := r.getD e
    have e2 := hx xs t1
    rw [h1] at e2
    cases e2
    exact ⟨F1, Grow.refl s2, h2.mono s1⟩
theorem it_str (z : Str) : ItOk K F (Its z) (charsD z) := fun F1 H1 s1 s2 i => by
  have hl : (charsD z).length = z.cps.size := by simp [charsD]
  refine ⟨fun hi => (show i < z.cps.size by omega), fun hi => (show z.cps.size ≤ i by omega), fun x H' d hy e => ?_⟩
  obtain ⟨rfl, c, hc, rfl⟩ := hy
  have e2 : (charsD z)[i]? = some (.str ⟨#[c]⟩) := by
    unfold charsD
    rw [List.getElem?_map, Array.getElem?_toList, hc]
    rfl
  rw [e2] at e
  cases e
  exact ⟨F1, Grow.refl s2, .str _⟩
theorem rangeD_at {lo : Int} {n i : Nat} (h : i < n) : (rangeD lo n)[i]? = some (.int (lo + (i : Int))) := by
  unfold rangeD
  rw [List.getElem?_map, List.getElem?_range h]
  rfl
theorem rangeDC_at {lo c : Int} {n i : Nat} (h : i < n) : (rangeDC lo c n)[i]? = some (.int (lo + (i : Int) * c)) := by
  unfold rangeDC
  rw [List.getElem?_map, List.getElem?_range h]
  rfl
theorem it_range (lo : Int) (n : Nat) : ItOk K F (Itr lo n) (rangeD lo n) := fun F1 H1 s1 s2 i => by
  have hl : (rangeD lo n).length = n := by simp [rangeD]
  refine ⟨fun hi => (show i < n by omega), fun hi => (show n ≤ i by omega), fun x H' d hy e => ?_⟩
  obtain ⟨rfl, rfl⟩ := hy
  have hi : i < n := by rw [← hl]; exact (List.getElem?_eq_some_iff.mp e).1
  rw [rangeD_at hi] at e
  cases e
  exact ⟨F1, Grow.refl s2, .int _⟩
theorem it_rangeC (lo c : Int) (n : Nat) : ItOk K F (Itc lo c n) (rangeDC lo c n) := fun F1 H1 s1 s2 i => by
  have hl : (rangeDC lo c n).length = n := by simp [rangeDC]
  refine ⟨fun hi => (show i < n by omega), fun hi => (show n ≤ i by omega), fun x H' d hy e => ?_⟩
  obtain ⟨rfl, rfl⟩ := hy
  have hi : i < n := by rw [← hl]; exact (List.getElem?_eq_some_iff.mp e).1
  rw [rangeDC_at hi] at e
  cases e
  exact ⟨F1, Grow.refl s2, .int _⟩
theorem zipD_at : ∀ {ds es : List D} {i : Nat} {d : D}, (zipD ds es)[i]? = some d → ∃ a b, ds[i]? = some a ∧ es[i]? = some b ∧ d = .tup [a, b]
  | [], _, _, _, h => by simp [zipD] at h
  | _ :: _, [], _, _, h => by simp [zipD] at h
  | x :: ds, y :: es, 0, d, h => by simp [zipD] at h; exact ⟨x, y, rfl, rfl, h.symm⟩
  | x :: ds, y :: es, i + 1, d, h => by
    obtain ⟨a, b, h1, h2, h3⟩ := zipD_at (ds := ds) (es := es) (i := i) (d := d) (by simpa [zipD] using h)
    exact ⟨a, b, by simpa using h1, by simpa using h2, h3⟩
theorem zipD_len : ∀ (ds es : List D), (zipD ds es).length = min ds.length es.length
  | [], es => by simp [zipD]
  | _ :: _, [] => by simp [zipD]
  | x :: ds, y :: es => by simp [zipD, zipD_len ds es, Nat.succ_min_succ]
theorem enumD_at : ∀ {k : Nat} {ds : List D} {i : Nat} {d : D}, (enumD k ds)[i]? = some d → ∃ a, ds[i]? = some a ∧ d = .tup [.int ((k + i : Nat) : Int), a]
  | _, [], _, _, h => by simp [enumD] at h
  | k, x :: ds, 0, d, h => by simp [enumD] at h; exact ⟨x, rfl, h.symm⟩
  | k, x :: ds, i + 1, d, h => by
    obtain ⟨a, h1, h2⟩ := enumD_at (k := k + 1) (ds := ds) (i := i) (d := d) (by simpa [enumD] using h)
    exact ⟨a, by simpa using h1, by rw [h2, show k + 1 + i = k + (i + 1) by omega]⟩
theorem enumD_len : ∀ (k : Nat) (ds : List D), (enumD k ds).length = ds.length
  | _, [] => rfl
  | k, _ :: ds => by simp [enumD, enumD_len (k + 1) ds]
theorem it_enum {a : Addr} {xs : List V} {ds : List D} (t : Rd F a (.lst xs)) (r : RepL K F xs ds) : ItOk K F (Ite K a) (enumD 0 ds) := fun F1 H1 s1 s2 i => by
  have t1 : SqL K H1 a xs := .inl (sameR (s1.trans s2) t)
  have hl := r.length
  have hn := enumD_len 0 ds
  refine ⟨fun hi => ?_, fun hi => ⟨xs, t1, by omega⟩, fun x H' d hy e => ?_⟩
  · have hx : i < xs.length := by omega
    exact ⟨xs, xs[i], t1, List.getElem?_eq_getElem hx⟩
  · obtain ⟨T, y, rfl, nT, rfl, hx⟩ := hy
    obtain ⟨b, h1, h2⟩ := enumD_at e
    obtain ⟨w, h3, h4⟩ := r.getD h1
    have e2 := hx xs t1
    rw [h3] at e2
    cases e2
    subst h2
    rw [Nat.zero_add]
    exact ⟨_, grow_new s2 nT, .tup (.inl (.inl upd_same)) (.cons (.int _) (.cons (h4.mono (s1.trans (same_up (s2.free nT)))) .nil))⟩
theorem it_enumT {a : Addr} {xs : List V} {ds : List D} (t : SqT K F a xs) (r : RepL K F xs ds) : ItOk K F (IteT K a) (enumD 0 ds) := fun F1 H1 s1 s2 i => by
  have t1 : SqT K H1 a xs := sameT (s1.trans s2) t
  have hl := r.length
  have hn := enumD_len 0 ds
  refine ⟨fun hi => ?_, fun hi => ?_, fun x H' d hy e => ?_⟩
  · have hx : i < xs.length := by omega
    exact ⟨xs, xs[i], t1, List.getElem?_eq_getElem hx⟩
  · exact ⟨xs, t1, by omega⟩
  · obtain ⟨T, y, rfl, nT, rfl, hx⟩ := hy
    obtain ⟨b, h1, h2⟩ := enumD_at e
    obtain ⟨w, h3, h4⟩ := r.getD h1
    have e2 := hx xs t1
    rw [h3] at e2
    cases e2
    subst h2
    rw [Nat.zero_add]
    exact ⟨_, grow_new s2 nT, .tup (.inl (.inl upd_same)) (.cons (.int _) (.cons (h4.mono (s1.trans (same_up (s2.free nT)))) .nil))⟩
theorem it_zip {a b : Addr} {xs ys : List V} {ds es : List D} (t : Rd F a (.lst xs)) (r : RepL K F xs ds) (t' : Rd F b (.lst ys)) (r' : RepL K F ys es) : ItOk K F (Itz K a b) (zipD ds es) := fun F1 H1 s1 s2 i => by
  have t1 : SqL K H1 a xs := .inl (sameR (s1.trans s2) t)
  have t2 : SqL K H1 b ys := .inl (sameR (s1.trans s2) t')
  have hl := r.length
  have hl' := r'.length
  have hn := zipD_len ds es
  refine ⟨fun hi => ?_, fun hi => ⟨xs, ys, t1, t2, by omega⟩, fun x H' d hy e => ?_⟩
  · have hx : i < xs.length := by omega
    have hx' : i < ys.length := by omega
    exact ⟨xs, ys, xs[i], ys[i], t1, t2, List.getElem?_eq_getElem hx, List.getElem?_eq_getElem hx'⟩
  · obtain ⟨T, y, z, rfl, nT, rfl, hx, hx'⟩ := hy
    obtain ⟨p, q, h1, h2, h5⟩ := zipD_at e
    obtain ⟨w, h3, h4⟩ := r.getD h1
    obtain ⟨w', h3', h4'⟩ := r'.getD h2
    have e2 := hx xs t1
    have e3 := hx' ys t2
    rw [h3] at e2
    rw [h3'] at e3
    cases e2
    cases e3
    subst h5
    have sm := s1.trans (same_up (o := .tup [y, z]) (s2.free nT))
    exact ⟨_, grow_new s2 nT, .tup (.inl (.inl upd_same)) (.cons (h4.mono sm) (.cons (h4'.mono sm) .nil))⟩
theorem it_zipT {a b : Addr} {xs ys : List V} {ds es : List D} (t : SqT K F a xs) (r : RepL K F xs ds) (t' : SqT K F b ys) (r' : RepL K F ys es) : ItOk K F (RZ.ItzT K a b) (zipD ds es) := fun F1 H1 s1 s2 i => by
  have t1 : SqT K H1 a xs := sameT (s1.trans s2) t
  have t2 : SqT K H1 b ys := sameT (s1.trans s2) t'
  have hl := r.length
  have hl' := r'.length
  have hn := zipD_len ds es
  refine ⟨fun hi => ?_, fun hi => ⟨xs, ys, t1, t2, by omega⟩, fun x H' d hy e => ?_⟩
  · have hx : i < xs.length := by omega
    have hx' : i < ys.length := by omega
    exact ⟨xs, ys, xs[i], ys[i], t1, t2, List.getElem?_eq_getElem hx, List.getElem?_eq_getElem hx'⟩
  · obtain ⟨T, y, z, rfl, nT, rfl, hx, hx'⟩ := hy
    obtain ⟨p, q, h1, h2, h5⟩ := zipD_at e
    obtain ⟨w, h3, h4⟩ := r.getD h1
    obtain ⟨w', h3', h4'⟩ := r'.getD h2
    have e2 := hx xs t1
    have e3 := hx' ys t2
    rw [h3] at e2
    rw [h3'] at e3
    cases e2
    cases e3
    subst h5
    have sm := s1.trans (same_up (o := .tup [y, z]) (s2.free nT))
    exact ⟨_, grow_new s2 nT, .tup (.inl (.inl upd_same)) (.cons (h4.mono sm) (.cons (h4'.mono sm) .nil))⟩
theorem it_rev {a : Addr} {xs : List V} {ds : List D} (t : Rd F a (.lst xs)) (r : RepL K F xs ds) : ItOk K F (Itv K a xs.length) ds.reverse := fun F1 H1 s1 s2 i => by
  have t1 : SqL K H1 a xs := .inl (sameR (s1.trans s2) t)
  have hl := r.length
  have hn : ds.reverse.length = ds.length := List.length_reverse
  refine ⟨fun hi => ?_, fun hi => (show xs.length ≤ i by omega), fun x H' d hy e => ?_⟩
  · have hx : xs.length - 1 - i < xs.length := by omega
    exact ⟨by omega, xs, xs[xs.length - 1 - i], t1, List.getElem?_eq_getElem hx⟩
  · obtain ⟨rfl, hx⟩ := hy
    have hi : i < ds.reverse.length := (List.getElem?_eq_some_iff.mp e).1
    rw [List.getElem?_reverse (by omega)] at e
    obtain ⟨w, h1, h2⟩ := r.getD e
    have e2 := hx xs t1
    rw [hl, h1] at e2
    cases e2
    exact ⟨F1, Grow.refl s2, h2.mono s1⟩
theorem it_revT {a : Addr} {xs : List V} {ds : List D} (t : SqT K F a xs) (r : RepL K F xs ds) : ItOk K F (RT.ItvT K a xs.length) ds.reverse := fun F1 H1 s1 s2 i => by
  have t1 : SqT K H1 a xs := sameT (s1.trans s2) t
  have hl := r.length
  have hn : ds.reverse.length = ds.length := List.length_reverse
  refine ⟨fun hi => ?_, fun hi => (show xs.length ≤ i by omega), fun x H' d hy e => ?_⟩
  · have hx : xs.length - 1 - i < xs.length := by omega
    exact ⟨by omega, xs, xs[xs.length - 1 - i], t1, List.getElem?_eq_getElem hx⟩
  · obtain ⟨rfl, hx⟩ := hy
    have hi : i < ds.reverse.length := (List.getElem?_eq_some_iff.mp e).1
    rw [List.getElem?_reverse (by omega)] at e
    obtain ⟨w, h1, h2⟩ := r.getD e
    have e2 := hx xs t1
    rw [hl, h1] at e2
    cases e2
    exact ⟨F1, Grow.refl s2, h2.mono s1⟩
end
section
variable {X : Cx} {xr : XRel} {wx : WX} {tg e : Expr} {es : List Expr} {de : Den} {da : ADen} {p pos : Pos}
theorem PI.or {t1 t2 : TI} (h1 : PI X tg e t1) (h2 : PI X tg e t2) : PI X tg e (fun σ H R => t1 σ H R ∨ t2 σ H R) := ⟨fun pins s σ H R I q => q.elim (h1.run pins s σ H R I) (h2.run pins s σ H R I)⟩
/-- for x in e -/
theorem iter_ok (he : PE X e (rdE X.K xr wx de)) : PI X tg e (rdI X.K xr wx (C.iter de)) := by
  refine PI.imp (PI.or (pi_list he) (PI.or (pi_tup he) (pi_str he))) fun σ H R ⟨F, sl, cor, post⟩ => ?_
  unfold C.iter at post
  cases e1 : de sl with
  | fail => rw [e1] at post; exact post.elim
  | exc x s => rw [e1] at post; exact .inl ⟨F, sl, cor, by rw [e1]; exact fun F' H' cls d st hx => post F' H' cls d st hx⟩
  | ok r sl1 =>
    rw [e1] at post
    simp only at post
    cases e2 : frz r sl1 with
    | none => rw [e2] at post; exact post.elim
    | some q =>
      obtain ⟨d, sl2⟩ := q
      rw [e2] at post
      cases d with
      | lst ds =>
        refine .inl ⟨F, sl, cor, ?_⟩
        rw [e1]
        intro F1 H1 v st rv
        obtain ⟨F2, st2, rp, _⟩ := frz_ok st rv e2
        obtain ⟨a, xs, rfl, t, r⟩ := (show RepO X.K F2 H1 v (.lst ds) from .inl rp).lst st2.cor.ff
        cases rp with
        | lst t2 r2 => exact ⟨a, rfl, ⟨xs, .inl t⟩, post F2 H1 _ st2 (it_list t2 r2)⟩
      | tup ds =>
        refine .inr (.inl ⟨F, sl, cor, ?_⟩)
        rw [e1]
        intro F1 H1 v st rv
        obtain ⟨F2, st2, rp, _⟩ := frz_ok st rv e2
        cases rp with
        | tup t2 r2 => exact ⟨_, rfl, ⟨_, sameT st2.cor.ff t2⟩, post F2 H1 _ st2 (it_tup t2 r2)⟩
      | str z =>
        refine .inr (.inr ⟨F, sl, cor, ?_⟩)
        rw [e1]
        intro F1 H1 v st rv
        obtain ⟨F2, st2, rp, _⟩ := frz_ok st rv e2
        cases rp
        exact ⟨z, rfl, post F2 H1 _ st2 (it_str z)⟩
      | _ => exact post.elim
theorem iterA_ok {f : List D → Option (List D)} {σ : St} {H : Hp} {R : It → Hp → Prop} {K : PySem.W.Frag} (o : opds da) (h : rdI K xr wx (C.iterA f da) σ H R) :
    rdA K xr wx da σ H fun vs H1 => ∃ F ds es, Same F H1 ∧ RepL K F vs ds ∧ f ds = some es ∧ ∀ J, ItOk K F J es → R J H1 := by
  obtain ⟨F, sl, cor, post⟩ := h
  refine ⟨F, sl, cor, ?_⟩
  unfold C.iterA at post
  cases e1 : da sl with
  | fail => rw [e1] at post; exact post.elim
  | exc x s => rw [e1] at post; exact post
  | ok rs sl1 =>
    rw [e1] at post
    simp only at post
    intro F1 H1 vs st1 rv1
    rw [← o _ _ _ e1] at rv1 post
    cases e2 : frzs (rs.map opd) sl1 with
    | none => rw [e2] at post; exact post.elim
    | some p =>
      obtain ⟨ds, sl2⟩ := p
      rw [e2] at post
      simp only at post
      obtain ⟨F2, st2, r2, s2⟩ := frzs_ok st1 rv1 e2
      cases e3 : f ds with
      | none => rw [e3] at post; exact post.elim
      | some es =>
        rw [e3] at post
        exact ⟨F2, ds, es, st2.cor.ff, r2, e3, fun J hJ => post F2 H1 J st2 hJ⟩
/-- what an argument list is wanted for, more weakly -/
theorem rdA_imp {σ : St} {H : Hp} {K : PySem.W.Frag} {Q Q' : List V → Hp → Prop} (h : rdA K xr wx da σ H Q) (w : ∀ vs H1, Q vs H1 → Q' vs H1) : rdA K xr wx da σ H Q' := by
  obtain ⟨F, sl, cor, post⟩ := h
  refine ⟨F, sl, cor, ?_⟩
  cases e1 : da sl with
  | fail => rw [e1] at post; exact post
  | exc x s => rw [e1] at post; exact post
  | ok rs sl1 => rw [e1] at post; exact fun F1 H1 vs st rv => w _ _ (post F1 H1 vs st rv)
theorem okR_of {i : Int} (h : C.okR i = true) : -(2 ^ 62) ≤ i ∧ i < 2 ^ 62 := by
  rw [C.okR_eq] at h
  rw [Bool.and_eq_true, decide_eq_true_eq, decide_eq_true_eq] at h
  exact ⟨by omega, by omega⟩
theorem range1_ok (o : opds da) (hg : Gl X "range") (hm : X.mg "range" = none) (ha : PA X [e] (rdA X.K xr wx da)) (hs : starEach [e] X.env = [(false, eval e X.env)]) : PI X tg (.Call (.Name "range" p) [e] [] pos) (rdI X.K xr wx (C.iterA W.range1 da)) :=
  PI.imp (pi_range1 hg hm ha hs) fun σ H R h => rdA_imp (iterA_ok o h) fun vs H1 ⟨F, ds, es, s, r, hf, k⟩ => by
    unfold W.range1 at hf
    split at hf
    · rename_i j
      split at hf
      · rename_i hj
        cases hf
        rw [RepL.ints (ns := [j]) r]
        obtain ⟨h1, h2⟩ := okR_of hj
        exact ⟨j, rfl, h1, h2, k _ (it_range 0 _)⟩
      · cases hf
    · cases hf
theorem range2_ok {e2 : Expr} (o : opds da) (hg : Gl X "range") (hm : X.mg "range" = none) (ha : PA X [e, e2] (rdA X.K xr wx da)) (hs : starEach [e, e2] X.env = [(false, eval e X.env), (false, eval e2 X.env)]) (hs2 : starEach [e2] X.env = [(false, eval e2 X.env)]) :
    PI X tg (.Call (.Name "range" p) [e, e2] [] pos) (rdI X.K xr wx (C.iterA W.range2 da)) :=
  PI.imp (pi_range2 hg hm ha hs hs2) fun σ H R h => rdA_imp (iterA_ok o h) fun vs H1 ⟨F, ds, es, s, r, hf, k⟩ => by
    unfold W.range2 at hf
    split at hf
    · rename_i i j
      split at hf
      · rename_i hj
        cases hf
        rw [RepL.ints (ns := [i, j]) r]
        rw [Bool.and_eq_true] at hj
        obtain ⟨h1, h2⟩ := okR_of hj.1
        obtain ⟨h3, h4⟩ := okR_of hj.2
        exact ⟨i, j, rfl, ⟨h1, h2, h3, h4⟩, k _ (it_range i _)⟩
      · cases hf
    · cases hf
theorem range3_ok {e2 e3 : Expr} (o : opds da) (hg : Gl X "range") (hm : X.mg "range" = none) (ha : PA X [e, e2, e3] (rdA X.K xr wx da)) (hs : starEach [e, e2, e3] X.env = (false, eval e X.env) :: starEach [e2, e3] X.env) (hpl : (backTo pos (starEach [e2, e3] X.env)).any (·.1) = false) :
    PI X tg (.Call (.Name "range" p) [e, e2, e3] [] pos) (rdI X.K xr wx (C.iterA W.range3 da)) :=
  PI.imp (pi_range3 hg hm ha hs hpl) fun σ H R h => rdA_imp (iterA_ok o h) fun vs H1 ⟨F, ds, es, s, r, hf, k⟩ => by
    unfold W.range3 at hf
    split at hf
    · rename_i i j c
      split at hf
      · rename_i hj
        cases hf
        rw [RepL.ints (ns := [i, j, c]) r]
        rw [Bool.and_eq_true, Bool.and_eq_true, decide_eq_true_eq] at hj
        obtain ⟨⟨rfl, h1⟩, h2⟩ := hj
        obtain ⟨h1, h2'⟩ := okR_of h1
        obtain ⟨h3, h4⟩ := okR_of h2
        exact ⟨i, j, -1, _, rfl, RgC.neg h1 h2' h3 h4, k _ (it_rangeC i (-1) _)⟩
      · cases hf
    · cases hf
theorem arg1 {K : PySem.W.Frag} {σ : St} {H : Hp} {Q : List V → Hp → Prop} (h : rdA K xr wx (C.acons de C.anil) σ H Q) : rdE K xr wx de σ H fun v H1 => Q [v] H1 := by
  obtain ⟨F, sl, cor, post⟩ := h
  refine ⟨F, sl, cor, ?_⟩
  unfold C.acons C.anil at post
  cases e1 : de sl with
  | fail => rw [e1] at post; exact post.elim
  | exc x s => rw [e1] at post; exact post
  | ok r sl1 =>
    rw [e1] at post
    intro F1 H1 v1 st1 rv1
    obtain ⟨F1', st1', rv1', _⟩ := opd_ok st1 rv1
    exact post F1' H1 [v1] st1' ⟨rv1', True.intro⟩
theorem opds1 : opds (C.acons de C.anil) := opds_cons opds_nil
theorem reversed_ok (hg : Gl X "reversed") (hm : X.mg "reversed" = none) (he : PE X e (rdE X.K xr wx de)) (hs : starEach [e] X.env = (false, eval e X.env) :: starEach [] X.env) : PI X tg (.Call (.Name "reversed" p) [e] [] pos) (rdI X.K xr wx (C.iterA W.reversed (C.acons de C.anil))) :=
  PI.imp (RT.pi_revA hg hm he hs) fun σ H R h => by
    obtain ⟨F, sl, cor, post⟩ := arg1 (iterA_ok opds1 h)
    refine ⟨F, sl, cor, ?_⟩
    cases e1 : de sl with
    | fail => rw [e1] at post; exact post.elim
    | exc x s => rw [e1] at post; exact post
    | ok r sl1 =>
      rw [e1] at post
      intro F1 H1 v1 st1 rv1
      obtain ⟨F2, ds, es, s, r2, hf, k⟩ := post F1 H1 v1 st1 rv1
      unfold W.reversed at hf
      split at hf
      · cases hf
        cases r2 with
        | cons r rr =>
          cases r with
          | lst t2 r2 => exact ⟨_, _, rfl, .inl ⟨.inl (sameR s t2), k _ (it_rev t2 r2)⟩⟩
      · cases hf
        cases r2 with
        | cons r rr =>
          cases r with
          | tup t2 r2 => exact ⟨_, _, rfl, .inr ⟨sameT s t2, k _ (it_revT t2 r2)⟩⟩
      · cases hf
theorem zip_ok {e2 : Expr} {elts : List Expr} {kk : Nat} {tpos : Pos} (o : opds da) (hg : Gl X "zip") (hm : X.mg "zip" = none) (ha : PA X [e, e2] (rdA X.K xr wx da)) (hs : starEach [e, e2] X.env = (false, eval e X.env) :: starEach [e2] X.env) (hpl : (backTo pos (starEach [e2] X.env)).any (·.1) = false) :
    PI X (.Tuple elts kk tpos) (.Call (.Name "zip" p) [e, e2] [] pos) (rdI X.K xr wx (C.iterA W.zip da)) :=
  PI.imp (RZ.pi_zipA hg hm ha hs hpl) fun σ H R h => rdA_imp (iterA_ok o h) fun vs H1 ⟨F, ds, es, s, r, hf, k⟩ => by
    unfold W.zip at hf
    split at hf
    · cases hf
      cases r with
      | cons r rr =>
        cases rr with
        | cons r' rr =>
          cases rr
          cases r with
          | lst t2 r2 =>
            cases r' with
            | lst t3 r3 => exact ⟨_, _, _, _, rfl, .inl ⟨.inl (sameR s t2), .inl (sameR s t3), k _ (it_zip t2 r2 t3 r3)⟩⟩
    · cases hf
      cases r with
      | cons r rr =>
        cases rr with
        | cons r' rr =>
          cases rr
          cases r with
          | tup t2 r2 =>
            cases r' with
            | tup t3 r3 => exact ⟨_, _, _, _, rfl, .inr ⟨sameT s t2, sameT s t3, k _ (it_zipT t2 r2 t3 r3)⟩⟩
    · cases hf
theorem enum_ok {elts : List Expr} {kk : Nat} {tpos : Pos} (o : opds da) (hg : Gl X "enumerate") (hm : X.mg "enumerate" = none) (ha : PA X [e] (rdA X.K xr wx da)) (hs : starEach [e] X.env = [(false, eval e X.env)]) :
    PI X (.Tuple elts kk tpos) (.Call (.Name "enumerate" p) [e] [] pos) (rdI X.K xr wx (C.iterA W.enum da)) :=
  PI.imp (PI.or (pi_enum hg hm ha hs) (pi_enumT hg hm ha hs)) fun σ H R h => by
    obtain ⟨F, sl, cor, post⟩ := h
    have post0 := post
    unfold C.iterA at post
    cases e1 : da sl with
    | fail => rw [e1] at post; exact post.elim
    | exc x s =>
      rw [e1] at post
      exact .inl ⟨F, sl, cor, by rw [e1]; exact fun F' H' cls d st hx => post F' H' cls d st hx⟩
    | ok rs sl1 =>
      rw [e1] at post
      simp only at post
      cases e2 : frzs rs sl1 with
      | none => rw [e2] at post; exact post.elim
      | some q =>
        obtain ⟨ds, sl2⟩ := q
        rw [e2] at post
        simp only at post
        cases e3 : W.enum ds with
        | none => rw [e3] at post; exact post.elim
        | some es =>
          have all := iterA_ok (R := R) o ⟨F, sl, cor, post0⟩
          rw [e3] at post
          have go : ∀ {F1 H1 : Hp} {vs : List V}, Step X.K F H σ sl F1 H1 σ sl1 → RVRL X.K H F1 H1 σ sl1 vs rs → ∃ F2, Same F2 H1 ∧ RepL X.K F2 vs ds ∧ ∀ J, ItOk X.K F2 J es → R J H1 := fun {F1 H1 vs} st1 rv1 => by
            rw [← o _ _ _ e1] at rv1 e2
            obtain ⟨F2, st2, r2, s2⟩ := frzs_ok st1 rv1 e2
            exact ⟨F2, st2.cor.ff, r2, fun J hJ => post F2 H1 J st2 hJ⟩
          unfold W.enum at e3
          split at e3
          · rename_i xs
            cases e3
            refine .inl ⟨F, sl, cor, ?_⟩
            rw [e1]
            intro F1 H1 vs st1 rv1
            obtain ⟨F2, s, r, k⟩ := go st1 rv1
            cases r with
            | cons r rr =>
              cases rr
              cases r with
              | lst t2 r2 => exact ⟨_, _, rfl, .inl (sameR s t2), k _ (it_enum t2 r2)⟩
          · rename_i xs
            cases e3
            refine .inr ⟨F, sl, cor, ?_⟩
            rw [e1]
            intro F1 H1 vs st1 rv1
            obtain ⟨F2, s, r, k⟩ := go st1 rv1
            cases r with
            | cons r rr =>
              cases rr
              cases r with
              | tup t2 r2 => exact ⟨_, _, rfl, sameT s t2, k _ (it_enumT t2 r2)⟩
          · cases e3
end
end RF
set_option maxRecDepth 100000
namespace RF
open PySem PySem.Spec L2
/-! ### calls of the text's own defs -/
namespace C
@[simp] def argSV (r : RV) (sl : Sl) : Option SV := match r with
  | .v d => some (.val d)
  | .n _ => none
  | .s i => match sl[i]? with
    | some (some (.val d)) => some (.val d)
    | some (some (.bval d)) => some (.val d)
    | some (some (.own c)) => some (.bref c)
    | some (some (.bref c)) => some (.bref c)
    | _ => none
@[simp] def argsSV : List RV → Sl → Option (List SV)
  | [], _ => some []
  | r :: rs, sl => (argSV r sl).bind fun x => (argsSV rs sl).bind fun xs => some (x :: xs)
@[simp] def isS (i : Nat) : RV → Bool
  | .s j => decide (j = i)
  | _ => false
/-- no slot is handed over twice -/
@[simp] def distinct : List RV → Bool
  | [] => true
  | .s i :: rs => !rs.any (isS i) && distinct rs
  | _ :: rs => distinct rs
/-- what has become of the slot i -/
@[simp] def look (i : Nat) : List RV → Sl → Option SV
  | r :: rs, x :: fin => if isS i r = true then x else look i rs fin
  | _, _ => none
@[simp] def back1 (x : Option SV) (y : Option SV) : Option SV := match x, y with
  | some (.own _), some (.bref c) => some (.own c)
  | some (.own _), some (.bval d) => some (.val d)
  | some (.bref _), some (.bref c) => some (.bref c)
  | some (.bref _), some (.bval d) => some (.bval d)
  | x, _ => x
@[simp] def backFrom (rs : List RV) (fin : Sl) : Nat → Sl → Sl
  | _, [] => []
  | i, x :: sl => back1 x (look i rs fin) :: backFrom rs fin (i + 1) sl
@[simp] def back (rs : List RV) (fin : Sl) (sl : Sl) : Sl := backFrom rs fin 0 sl
def ucall (f : List SV → CRes) (a : ADen) : Den := fun sl => match a sl with
  | .ok rs sl1 => if distinct rs = true then (match argsSV rs sl1 with
    | some xs => (match f xs with
      | .ok (.v d) fin => .ok (.v d) (back rs fin sl1)
      | .ok (.n c) fin => .ok (.n c) (back rs fin sl1)
      | _ => .fail)
    | none => .fail) else .fail
  | .exc x s => .exc x s
  | .fail => .fail
/-- the arguments behind the body -/
@[simp] def fin : List SV → Sl → Sl
  | [], _ => []
  | .bref _ :: xs, sl => sl.head?.join :: fin xs sl.tail
  | x :: xs, sl => some x :: fin xs sl.tail
@[simp] def body (np nl : Nat) (b : SDen) : List SV → CRes := fun xs => if xs.length = np then (match b (xs.map some ++ List.replicate (nl - np) none) with
  | .nx sl => .ok (.v .non) (fin xs sl)
  | .rt (.v d) sl => .ok (.v d) (fin xs sl)
  | .rt (.n c) sl => .ok (.n c) (fin xs sl)
  | _ => .fail) else .fail
end C
def isArg : SV → Bool
  | .val _ => true
  | .bref _ => true
  | _ => false
def spOf (K : PySem.W.Frag) (n : Nat) (f : List SV → CRes) : Sp := fun vs H Q _ => ∃ (F : Hp) (xs : List SV), vs.length = n ∧ Corr K F H (vs.map some) (xs.map some) ∧ xs.all isArg = true ∧ match f xs with
  | .ok r fin => ∀ F' H' v, Step K F H (vs.map some) (xs.map some) F' H' (vs.map some) fin → RVR K H F' H' (vs.map some) fin v r → Q v H'
  | _ => False
theorem spOf_len {K : PySem.W.Frag} {n : Nat} {f : List SV → CRes} {ps : List Str} (h : ps.length = n) : ∀ vs H Q E, spOf K n f vs H Q E → vs.length = ps.length := fun vs H Q E ⟨F, xs, hl, _⟩ => hl.trans h.symm

section
variable {K : PySem.W.Frag} {F H F' H' H0 F0 F1 H1 : Hp} {σ σ0 : St} {sl sl' sl0 sl1 : Sl} {v : V} {d : D}
theorem rep_get {α : Type} {a : α} {n i : Nat} {x : α} (h : (List.replicate n a)[i]? = some x) : x = a := by
  rw [List.getElem?_replicate] at h
  split at h
  · cases h; rfl
  · cases h
theorem own_pad {m : Nat} {i : Nat} {a : Addr} (hl : σ.length = sl.length) (h : OwnAt (σ ++ List.replicate m none) (sl ++ List.replicate m none) i a) : OwnAt σ sl i a := by
  obtain ⟨x, c, e1, e2, e3⟩ := h
  by_cases hi : i < sl.length
  · rw [List.getElem?_append_left hi] at e1
    rw [List.getElem?_append_left (by omega)] at e3
    exact ⟨x, c, e1, e2, e3⟩
  · rw [List.getElem?_append_right (by omega)] at e1
    cases rep_get e1
theorem own_pads {m : Nat} {i : Nat} {a : Addr} (hl : σ.length = sl.length) (h : OwnAt σ sl i a) : OwnAt (σ ++ List.replicate m none) (sl ++ List.replicate m none) i a := by
  obtain ⟨x, c, e1, e2, e3⟩ := h
  have hi : i < sl.length := (List.getElem?_eq_some_iff.mp e1).1
  refine ⟨x, c, ?_, e2, ?_⟩
  · rw [List.getElem?_append_left hi]; exact e1
  · rw [List.getElem?_append_left (by omega)]; exact e3
theorem corr_pad {m : Nat} (c : Corr K F H σ sl) : Corr K F H (σ ++ List.replicate m none) (sl ++ List.replicate m none) := by
  refine ⟨c.ff, by rw [List.length_append, List.length_append, List.length_replicate, c.len, List.length_replicate], fun i x e => ?_, fun i j a h1 h2 => c.dj i j a (own_pad c.len h1) (own_pad c.len h2)⟩
  by_cases hi : i < sl.length
  · rw [List.getElem?_append_left hi] at e
    rw [List.getElem?_append_left (by have := c.len; omega)]
    exact c.ok i x e
  · rw [List.getElem?_append_right (by omega)] at e
    cases rep_get e
    exact True.intro
/-- the arguments' contents behind a body, one by one -/
theorem fin_len : ∀ (xs : List SV) (sl : Sl), (C.fin xs sl).length = xs.length
  | [], _ => rfl
  | x :: xs, sl => by cases x <;> simp [C.fin, fin_len xs]
theorem fin_at : ∀ {xs : List SV} {sl : Sl} {i : Nat} {x : SV}, xs[i]? = some x → (∃ c, x = .bref c ∧ (C.fin xs sl)[i]? = some (sl[i]?.join)) ∨ ((∀ c, x ≠ .bref c) ∧ (C.fin xs sl)[i]? = some (some x))
  | [], _, _, _, h => by simp at h
  | x :: xs, sl, 0, y, h => by
    simp at h; subst h
    cases x with
    | bref c => exact .inl ⟨c, rfl, by simp [C.fin, List.head?_eq_getElem?]⟩
    | val d => exact .inr ⟨fun c z => (nomatch z), rfl⟩
    | own c => exact .inr ⟨fun c z => (nomatch z), rfl⟩
    | bval d => exact .inr ⟨fun c z => (nomatch z), rfl⟩
  | x :: xs, sl, i + 1, y, h => by
    have h : xs[i]? = some y := by simpa using h
    have ht : sl.tail[i]? = sl[i + 1]? := by cases sl <;> simp
    have hf : (C.fin (x :: xs) sl)[i + 1]? = (C.fin xs sl.tail)[i]? := by cases x <;> simp [C.fin]
    rw [hf, ← ht]
    exact fin_at h
theorem arg_own {xs : List SV} (ha : xs.all isArg = true) {i : Nat} {x : SV} (h : xs[i]? = some x) : (∃ d, x = .val d) ∨ ∃ c, x = .bref c := by
  have := List.all_eq_true.mp ha x (List.mem_of_getElem? h)
  cases x with
  | val d => exact .inl ⟨d, rfl⟩
  | bref c => exact .inr ⟨c, rfl⟩
  | own c => cases this
  | bval c => cases this
/-- a body's step, seen at the arguments -/
theorem step_fin {vs : List V} {xs : List SV} {m : Nat} {σ' : St} (cor : Corr K F H (vs.map some) (xs.map some)) (ha : xs.all isArg = true)
    (st : Step K F H (vs.map some ++ List.replicate m none) (xs.map some ++ List.replicate m none) F' H' σ' sl') : Step K F H (vs.map some) (xs.map some) F' H' (vs.map some) (C.fin xs sl') ∧ ∀ a, Owns (vs.map some) (C.fin xs sl') a → Owns σ' sl' a := by
  have hl := cor.len
  have hlv : vs.length = xs.length := by simpa using hl
  have at0 : ∀ {i : Nat} {x : SV}, xs[i]? = some x → (xs.map some ++ List.replicate m none)[i]? = some (some x) := fun {i x} e => by
    have hi : i < xs.length := (List.getElem?_eq_some_iff.mp e).1
    rw [List.getElem?_append_left (by simpa using hi), List.getElem?_map, e]; rfl
  have atv : ∀ {i : Nat}, i < xs.length → (vs.map some ++ List.replicate m none)[i]? = (vs.map some)[i]? := fun {i} hi => List.getElem?_append_left (by simp; omega)
  -- a handed-over slot
  have ref : ∀ {i : Nat} {c : Cell}, xs[i]? = some (.bref c) → σ'[i]? = (vs.map some)[i]? ∧ ∃ y, sl'[i]? = some (some y) ∧ (C.fin xs sl')[i]? = some (some y) ∧ ((∃ c, y = .bref c) ∨ ∃ d, y = .bval d) := fun {i c} e => by
    have hi : i < xs.length := (List.getElem?_eq_some_iff.mp e).1
    obtain ⟨e1, y, e2, e3⟩ := st.pin i _ (at0 e) (.inl ⟨c, rfl⟩)
    rw [atv hi] at e1
    rcases fin_at (sl := sl') e with ⟨_, _, q⟩ | ⟨n, _⟩
    · rw [e2] at q
      exact ⟨e1, y, e2, q, e3⟩
    · exact absurd rfl (n c)
  have own : ∀ {i : Nat} {a : Addr}, OwnAt (vs.map some) (C.fin xs sl') i a → OwnAt σ' sl' i a ∧ ∃ c, xs[i]? = some (.bref c) := fun {i a} ⟨x, c, e1, e2, e3⟩ => by
    have hi : i < xs.length := by have := (List.getElem?_eq_some_iff.mp e1).1; rw [fin_len] at this; exact this
    have ex : xs[i]? = some xs[i] := List.getElem?_eq_getElem hi
    rcases arg_own ha ex with ⟨d, z⟩ | ⟨c', z⟩
    · rw [z] at ex
      rcases fin_at (sl := sl') ex with ⟨c, q, _⟩ | ⟨_, q⟩
      · cases q
      · rw [e1] at q; cases q; cases e2
    · rw [z] at ex
      obtain ⟨f1, y, f2, f3, f4⟩ := ref ex
      rw [e1] at f3; cases f3
      exact ⟨⟨x, c, f2, e2, f1.trans e3⟩, c', ex⟩
  refine ⟨⟨st.ext.weak fun b ⟨i, h⟩ => ⟨i, own_pad hl h⟩, ⟨st.cor.ff, by rw [fin_len]; simpa using hlv, fun i x e => ?_, fun i j a h1 h2 => st.cor.dj i j a (own h1).1 (own h2).1⟩, fun a ⟨i, h⟩ => ?_, fun i x e hx => ⟨rfl, ?_⟩⟩, fun a ⟨i, h⟩ => ⟨i, (own h).1⟩⟩
  · have hi : i < xs.length := by have := (List.getElem?_eq_some_iff.mp e).1; rw [fin_len] at this; exact this
    have ex : xs[i]? = some xs[i] := List.getElem?_eq_getElem hi
    rcases arg_own ha ex with ⟨d, z⟩ | ⟨c', z⟩
    · rw [z] at ex
      rcases fin_at (sl := sl') ex with ⟨c, q, _⟩ | ⟨_, q⟩
      · cases q
      · rw [e] at q; cases q
        have k := cor.ok i (some (.val d)) (by rw [List.getElem?_map, ex]; rfl)
        obtain ⟨y, k1, k2⟩ := k
        exact ⟨y, k1, k2.mono st.ext.ff⟩
    · rw [z] at ex
      obtain ⟨f1, y, f2, f3, f4⟩ := ref ex
      rw [e] at f3; cases f3
      have k := st.cor.ok i _ f2
      rw [f1] at k
      exact k
  · obtain ⟨h1, c, h2⟩ := own h
    -- the same address at the start
    obtain ⟨f1, _⟩ := ref h2
    obtain ⟨_, _, _, _, e3⟩ := h1
    exact .inl ⟨i, _, c, by rw [List.getElem?_map, h2]; rfl, rfl, f1 ▸ e3⟩
  · have e : xs[i]? = some x := by
      rw [List.getElem?_map] at e
      cases q : xs[i]? with
      | none => rw [q] at e; cases e
      | some y => rw [q] at e; cases e; rfl
    rcases arg_own ha e with ⟨d, z⟩ | ⟨c', z⟩
    · subst z
      rcases hx with ⟨c, z⟩ | ⟨c, z⟩ <;> cases z
    · subst z
      obtain ⟨_, y, _, f3, f4⟩ := ref e
      exact ⟨y, f3, f4⟩
/-- THE BODY of a def keeps its promise -/
theorem body_ok {xr : XRel} {wx : WX} {N : List Str} {np : Nat} {b : SDen} {vs : List V} {Q : VK} {E : XK} (h : spOf K np (C.body np N.length b) vs H Q E) : rdS K xr wx b { nx := fun _ H' => Q .non H', rt := Q } (L2.start N vs) H := by
  obtain ⟨F, xs, hl, cor, ha, post⟩ := h
  have hlv : vs.length = xs.length := by simpa using cor.len
  refine ⟨F, xs.map some ++ List.replicate (N.length - np) none, ?_, ?_⟩
  · unfold L2.start
    rw [hl]
    exact corr_pad cor
  · unfold C.body at post
    rw [if_pos (by omega)] at post
    have hs : L2.start N vs = vs.map some ++ List.replicate (N.length - np) none := by unfold L2.start; rw [hl]
    rw [hs]
    cases e : b (xs.map some ++ List.replicate (N.length - np) none) with
    | fail => rw [e] at post; exact post.elim
    | exc x s => rw [e] at post; exact post.elim
    | bk s => rw [e] at post; exact post.elim
    | ct s => rw [e] at post; exact post.elim
    | nx sl =>
      rw [e] at post
      exact fun F' H' σ' st => post F' H' .non (step_fin cor ha st).1 .non
    | rt r sl =>
      rw [e] at post
      cases r with
      | v d => exact fun F' H' σ' v st rv => post F' H' v (step_fin cor ha st).1 rv
      | s i => exact post.elim
      | n c =>
        refine fun F' H' σ' v st rv => post F' H' v (step_fin cor ha st).1 ?_
        obtain ⟨a, e1, ca, hf, no, h0⟩ := rv
        refine ⟨a, e1, ca, hf, fun z => no ((step_fin cor ha st).2 a z), ?_⟩
        rcases h0 with h0 | ⟨i, c', h1, h2⟩
        · exact h0
        · exfalso
          have hi : i < xs.length := by
            by_cases hi : i < xs.length
            · exact hi
            · rw [List.getElem?_append_right (by simpa using hi)] at h1
              cases rep_get h1
          rw [List.getElem?_append_left (by simpa using hi), List.getElem?_map, List.getElem?_eq_getElem hi] at h1
          have h1 : some (some xs[i]) = some (some (SV.own c')) := h1
          rcases arg_own ha (List.getElem?_eq_getElem hi) with ⟨d, z⟩ | ⟨d, z⟩ <;> rw [z] at h1 <;> cases h1
end
end RF
set_option maxRecDepth 100000
namespace RF
open PySem PySem.Spec L2
section
variable {K : PySem.W.Frag} {F H F' H' H0 F0 F1 H1 : Hp} {σ σ0 : St} {sl sl' sl0 sl1 : Sl} {v : V} {d : D}
theorem back_at (rs : List RV) (fin : Sl) : ∀ (k : Nat) (sl : Sl) (i : Nat), (C.backFrom rs fin k sl)[i]? = (sl[i]?).map fun x => C.back1 x (C.look (k + i) rs fin)
  | _, [], _ => by simp [C.backFrom]
  | k, x :: sl, 0 => by simp [C.backFrom]
  | k, x :: sl, i + 1 => by
    have h := back_at rs fin (k + 1) sl i
    simp only [C.backFrom, List.getElem?_cons_succ]
    rw [h, show k + 1 + i = k + (i + 1) by omega]
theorem back_len (rs : List RV) (fin : Sl) : ∀ (k : Nat) (sl : Sl), (C.backFrom rs fin k sl).length = sl.length
  | _, [] => rfl
  | k, x :: sl => by simp [C.backFrom, back_len rs fin (k + 1) sl]
/-- an argument that is a handle -/
theorem look_some : ∀ {rs : List RV} {fin : Sl} {i : Nat} {y : SV}, C.look i rs fin = some y → ∃ k : Nat, rs[k]? = some (RV.s i) ∧ fin[k]? = some (some y)
  | [], _, _, _, h => by simp [C.look] at h
  | _ :: _, [], _, _, h => by simp [C.look] at h
  | r :: rs, x :: fin, i, y, h => by
    unfold C.look at h
    split at h
    · rename_i hs
      subst h
      cases r with
      | s j => refine ⟨0, ?_, rfl⟩; simp [C.isS] at hs; simp [hs]
      | v d => cases hs
      | n d => cases hs
    · obtain ⟨k, h1, h2⟩ := look_some h
      exact ⟨k + 1, by simpa using h1, by simpa using h2⟩
theorem look_none : ∀ {rs : List RV} {fin : Sl} {i k : Nat}, rs[k]? = some (.s i) → rs.length = fin.length → ∃ k' : Nat, k' ≤ k ∧ rs[k']? = some (.s i) ∧ fin[k']? = some (C.look i rs fin)
  | [], _, _, _, h, _ => by simp at h
  | r :: rs, [], _, _, _, h => by simp at h
  | r :: rs, x :: fin, i, k, h, hl => by
    by_cases hs : C.isS i r = true
    · refine ⟨0, Nat.zero_le _, ?_, ?_⟩
      · cases r with
        | s j => simp [C.isS] at hs; simp [hs]
        | v d => cases hs
        | n d => cases hs
      · show some x = some (C.look i (r :: rs) (x :: fin))
        unfold C.look
        rw [if_pos hs]
    · cases k with
      | zero =>
        simp at h; subst h
        simp [C.isS] at hs
      | succ k =>
        obtain ⟨k', h1, h2, h3⟩ := look_none (rs := rs) (fin := fin) (i := i) (k := k) (by simpa using h) (by simpa using hl)
        refine ⟨k' + 1, by omega, by simpa using h2, ?_⟩
        have e : C.look i (r :: rs) (x :: fin) = C.look i rs fin := by show (if C.isS i r = true then x else C.look i rs fin) = _; exact if_neg hs
        rw [e, List.getElem?_cons_succ]
        exact h3
theorem look_not : ∀ {rs : List RV} {fin : Sl} {i : Nat}, (∀ k : Nat, rs[k]? ≠ some (RV.s i)) → C.look i rs fin = none
  | [], _, _, _ => rfl
  | _ :: _, [], _, _ => rfl
  | r :: rs, x :: fin, i, h => by
    have hs : C.isS i r = false := by
      cases r with
      | s j =>
        have := h 0
        simp only [List.getElem?_cons_zero] at this
        simp only [C.isS, decide_eq_false_iff_not]
        exact fun z => this (by rw [z])
      | v d => rfl
      | n d => rfl
    unfold C.look
    rw [hs, if_neg Bool.false_ne_true]
    exact look_not fun k => by have := h (k + 1); simpa using this
theorem distinct_at : ∀ {rs : List RV} {i k l : Nat}, C.distinct rs = true → rs[k]? = some (.s i) → rs[l]? = some (.s i) → k = l
  | [], _, _, _, _, h, _ => by simp at h
  | r :: rs, i, 0, 0, _, _, _ => rfl
  | r :: rs, i, 0, l + 1, hd, h1, h2 => by
    simp at h1; subst h1
    have h2 : rs[l]? = some (.s i) := by simpa using h2
    unfold C.distinct at hd
    rw [Bool.and_eq_true, Bool.not_eq_true'] at hd
    have q := List.any_eq_false.mp hd.1 _ (List.mem_of_getElem? h2)
    simp [C.isS] at q
  | r :: rs, i, k + 1, 0, hd, h1, h2 => by
    simp at h2; subst h2
    have h2 : rs[k]? = some (.s i) := by simpa using h1
    unfold C.distinct at hd
    rw [Bool.and_eq_true, Bool.not_eq_true'] at hd
    have q := List.any_eq_false.mp hd.1 _ (List.mem_of_getElem? h2)
    simp [C.isS] at q
  | r :: rs, i, k + 1, l + 1, hd, h1, h2 => by
    have hd : C.distinct rs = true := by
      cases r with
      | s j => unfold C.distinct at hd; rw [Bool.and_eq_true] at hd; exact hd.2
      | v d => exact hd
      | n d => exact hd
    exact congrArg (· + 1) (distinct_at hd (by simpa using h1) (by simpa using h2))
theorem rvrl_get : ∀ {vs : List V} {rs : List RV} {k : Nat} {r : RV}, RVRL K H0 F H σ sl vs rs → rs[k]? = some r → ∃ v, vs[k]? = some v ∧ RVR K H0 F H σ sl v r
  | [], [], _, _, _, h => by simp at h
  | [], _ :: _, _, _, h, _ => h.elim
  | _ :: _, [], _, _, h, _ => h.elim
  | v :: vs, r :: rs, 0, _, h, e => by simp at e; subst e; exact ⟨v, rfl, h.1⟩
  | v :: vs, r :: rs, k + 1, _, h, e => by
    obtain ⟨w, h1, h2⟩ := rvrl_get (k := k) h.2 (by simpa using e)
    exact ⟨w, by simpa using h1, h2⟩
theorem rvrl_len : ∀ {vs : List V} {rs : List RV}, RVRL K H0 F H σ sl vs rs → vs.length = rs.length
  | [], [], _ => rfl
  | [], _ :: _, h => h.elim
  | _ :: _, [], h => h.elim
  | v :: vs, r :: rs, h => congrArg (· + 1) (rvrl_len h.2)
theorem args_get : ∀ {rs : List RV} {xs : List SV} {k : Nat} {x : SV}, C.argsSV rs sl = some xs → xs[k]? = some x → ∃ r, rs[k]? = some r ∧ C.argSV r sl = some x
  | [], xs, k, x, h, e => by cases h; simp at e
  | r :: rs, xs, k, x, h, e => by
    unfold C.argsSV at h
    cases q : C.argSV r sl with
    | none => rw [q] at h; cases h
    | some y =>
      rw [q] at h
      have h : ((C.argsSV rs sl).bind fun xs => some (y :: xs)) = some xs := h
      cases q2 : C.argsSV rs sl with
      | none => rw [q2] at h; cases h
      | some ys =>
        rw [q2] at h
        cases h
        cases k with
        | zero => simp at e; subst e; exact ⟨r, rfl, q⟩
        | succ k =>
          obtain ⟨r', h1, h2⟩ := args_get q2 (show ys[k]? = some x by simpa using e)
          exact ⟨r', by simpa using h1, h2⟩
theorem args_len : ∀ {rs : List RV} {xs : List SV}, C.argsSV rs sl = some xs → xs.length = rs.length
  | [], xs, h => by cases h; rfl
  | r :: rs, xs, h => by
    unfold C.argsSV at h
    cases q : C.argSV r sl with
    | none => rw [q] at h; cases h
    | some y =>
      rw [q] at h
      have h : ((C.argsSV rs sl).bind fun xs => some (y :: xs)) = some xs := h
      cases q2 : C.argsSV rs sl with
      | none => rw [q2] at h; cases h
      | some ys =>
        rw [q2] at h
        cases h
        exact congrArg (· + 1) (args_len q2)
/-- what an argument is -/
theorem arg_cases {r : RV} {x : SV} (h : C.argSV r sl = some x) : (∃ d, r = .v d ∧ x = .val d) ∨ (∃ i d y, r = .s i ∧ sl[i]? = some (some y) ∧ (y = .val d ∨ y = .bval d) ∧ x = .val d) ∨ ∃ i c y, r = .s i ∧ sl[i]? = some (some y) ∧ y.open? = some c ∧ x = .bref c := by
  cases r with
  | v d => cases h; exact .inl ⟨d, rfl, rfl⟩
  | n c => cases h
  | s i =>
    have h : (match sl[i]? with
      | some (some (.val d)) => some (SV.val d)
      | some (some (.bval d)) => some (.val d)
      | some (some (.own c)) => some (.bref c)
      | some (some (.bref c)) => some (.bref c)
      | _ => none) = some x := h
    cases q : sl[i]? with
    | none => rw [q] at h; cases h
    | some y =>
      cases y with
      | none => rw [q] at h; cases h
      | some y =>
        rw [q] at h
        cases y with
        | val d => cases h; exact .inr (.inl ⟨i, d, _, rfl, q, .inl rfl, rfl⟩)
        | bval d => cases h; exact .inr (.inl ⟨i, d, _, rfl, q, .inr rfl, rfl⟩)
        | own d => cases h; exact .inr (.inr ⟨i, d, _, rfl, q, rfl, rfl⟩)
        | bref d => cases h; exact .inr (.inr ⟨i, d, _, rfl, q, rfl, rfl⟩)
theorem args_isArg {rs : List RV} {xs : List SV} (h : C.argsSV rs sl = some xs) : xs.all isArg = true := by
  rw [List.all_eq_true]
  intro x hx
  obtain ⟨k, hk⟩ := List.getElem?_of_mem hx
  obtain ⟨r, _, h2⟩ := args_get h hk
  rcases arg_cases h2 with ⟨d, _, rfl⟩ | ⟨_, d, _, _, _, _, rfl⟩ | ⟨_, c, _, _, _, _, rfl⟩ <;> rfl
/-- the arguments as a callee's slots -/
theorem args_corr {rs : List RV} {xs : List SV} {vs : List V} (cor : Corr K F H σ sl) (rv : RVRL K H0 F H σ sl vs rs) (hd : C.distinct rs = true) (h : C.argsSV rs sl = some xs) :
    Corr K F H (vs.map some) (xs.map some) ∧ ∀ (k : Nat) (a : Addr), OwnAt (vs.map some) (xs.map some) k a → ∃ i, rs[k]? = some (.s i) ∧ OwnAt σ sl i a := by
  have own : ∀ (k : Nat) (a : Addr), OwnAt (vs.map some) (xs.map some) k a → ∃ i, rs[k]? = some (.s i) ∧ OwnAt σ sl i a := fun k a ⟨x, c, e1, e2, e3⟩ => by
    have e1 : xs[k]? = some x := by
      rw [List.getElem?_map] at e1
      cases q : xs[k]? with
      | none => rw [q] at e1; cases e1
      | some y => rw [q] at e1; cases e1; rfl
    obtain ⟨r, h1, h2⟩ := args_get h e1
    obtain ⟨v, h3, h4⟩ := rvrl_get rv h1
    have ev : v = .ref a := by
      rw [List.getElem?_map, h3] at e3
      cases e3; rfl
    subst ev
    rcases arg_cases h2 with ⟨d, _, rfl⟩ | ⟨_, d, _, _, _, _, rfl⟩ | ⟨i, c', y, rfl, q1, q2, rfl⟩
    · cases e2
    · cases e2
    · exact ⟨i, h1, y, c', q1, q2, h4⟩
  refine ⟨⟨cor.ff, by rw [List.length_map, List.length_map, args_len h, rvrl_len rv], fun k x e => ?_, fun k l a h1 h2 => ?_⟩, own⟩
  · have e1 : ∃ y, xs[k]? = some y ∧ x = some y := by
      rw [List.getElem?_map] at e
      cases q : xs[k]? with
      | none => rw [q] at e; cases e
      | some y => rw [q] at e; cases e; exact ⟨y, rfl, rfl⟩
    obtain ⟨y, e1, rfl⟩ := e1
    obtain ⟨r, h1, h2⟩ := args_get h e1
    obtain ⟨v, h3, h4⟩ := rvrl_get rv h1
    have ev : (vs.map some)[k]?.join = some v := by rw [List.getElem?_map, h3]; rfl
    rw [ev]
    rcases arg_cases h2 with ⟨d, rfl, rfl⟩ | ⟨i, d, z, rfl, q1, q2, rfl⟩ | ⟨i, c', z, rfl, q1, q2, rfl⟩
    · exact ⟨v, rfl, h4⟩
    · have h4 : σ[i]? = some (some v) := h4
      have k := cor.at q1
      rw [slot_join h4] at k
      rcases q2 with rfl | rfl
      · obtain ⟨w, z, k⟩ := k; cases z; exact ⟨_, rfl, k⟩
      · obtain ⟨w, z, k, _⟩ := k; cases z; exact ⟨_, rfl, k⟩
    · have h4 : σ[i]? = some (some v) := h4
      have k := cor.at q1
      rw [slot_join h4] at k
      cases z with
      | val d => cases q2
      | bval d => cases q2
      | own d => cases q2; exact k
      | bref d => cases q2; exact k
  · obtain ⟨i, h3, h4⟩ := own k a h1
    obtain ⟨j, h5, h6⟩ := own l a h2
    have e := cor.dj i j a h4 h6
    subst e
    exact distinct_at hd h3 h5
theorem back1_open {x y : Option SV} {z : SV} {c : Cell} (h : C.back1 x y = some z) (ho : z.open? = some c) : ∃ w c', x = some w ∧ w.open? = some c' ∧ (y = some (.bref c) ∨ ((∀ e, y ≠ some (.bref e)) ∧ (∀ e, y ≠ some (.bval e)) ∧ w = z)) := by
  unfold C.back1 at h
  split at h
  · cases h; cases ho; exact ⟨_, _, rfl, rfl, .inl rfl⟩
  · cases h; cases ho
  · cases h; cases ho; exact ⟨_, _, rfl, rfl, .inl rfl⟩
  · cases h; cases ho
  · rename_i n1 n2 n3 n4
    subst h
    cases z with
    | val d => cases ho
    | bval d => cases ho
    | own d => exact ⟨_, d, rfl, rfl, .inr ⟨fun e q => n1 _ _ rfl q, fun e q => n2 _ _ rfl q, rfl⟩⟩
    | bref d => exact ⟨_, d, rfl, rfl, .inr ⟨fun e q => n3 _ _ rfl q, fun e q => n4 _ _ rfl q, rfl⟩⟩
theorem back1_non (y : Option SV) : C.back1 none y = none := by
  cases y with
  | none => rfl
  | some y => cases y <;> rfl
theorem back1_shut {x : SV} (y : Option SV) (h : x.open? = none) : C.back1 (some x) y = some x := by
  cases x with
  | own c => cases h
  | bref c => cases h
  | val d => cases y with
    | none => rfl
    | some y => cases y <;> rfl
  | bval d => cases y with
    | none => rfl
    | some y => cases y <;> rfl
theorem back1_keep (x : Option SV) : C.back1 x none = x := by
  cases x with
  | none => rfl
  | some x => cases x <;> rfl
theorem back1_bref (c : Cell) (y : Option SV) : (∃ c', C.back1 (some (.bref c)) y = some (.bref c')) ∨ ∃ d, C.back1 (some (.bref c)) y = some (.bval d) := by
  cases y with
  | none => exact .inl ⟨_, rfl⟩
  | some y => cases y with
    | val d => exact .inl ⟨_, rfl⟩
    | own d => exact .inl ⟨_, rfl⟩
    | bref d => exact .inl ⟨_, rfl⟩
    | bval d => exact .inr ⟨_, rfl⟩
/-- a callee's step, seen at the caller -/
theorem step_back {rs : List RV} {xs : List SV} {vs : List V} {fin : Sl} (cor : Corr K F H σ sl) (rv : RVRL K H0 F H σ sl vs rs) (hd : C.distinct rs = true) (h : C.argsSV rs sl = some xs)
    (st : Step K F H (vs.map some) (xs.map some) F' H' (vs.map some) fin) : Step K F H σ sl F' H' σ (C.back rs fin sl) := by
  obtain ⟨ac, own⟩ := args_corr cor rv hd h
  have lf : fin.length = xs.length := by have := st.cor.len; have := ac.len; simp at *; omega
  have lrs : rs.length = fin.length := by rw [lf, args_len h]
  have lv := rvrl_len rv
  have bk : ∀ i, (C.back rs fin sl)[i]? = (sl[i]?).map fun x => C.back1 x (C.look i rs fin) := fun i => by
    unfold C.back
    rw [back_at, Nat.zero_add]
  -- a handle's place
  have hnd : ∀ {k i : Nat}, rs[k]? = some (.s i) → ∃ v, vs[k]? = some v ∧ (vs.map some)[k]? = some (some v) ∧ σ[i]? = some (some v) := fun {k i} e => by
    obtain ⟨v, h1, h2⟩ := rvrl_get rv e
    exact ⟨v, h1, by rw [List.getElem?_map, h1]; rfl, h2⟩
  -- what is open behind was open ahead
  have opn : ∀ {i : Nat} {a : Addr}, OwnAt σ (C.back rs fin sl) i a → OwnAt σ sl i a := fun {i a} ⟨x, c, e1, e2, e3⟩ => by
    rw [bk] at e1
    cases q : sl[i]? with
    | none => rw [q] at e1; cases e1
    | some y =>
      rw [q] at e1
      have e1 : some (C.back1 y (C.look i rs fin)) = some (some x) := e1
      obtain ⟨w, c', z1, z2, _⟩ := back1_open (Option.some.inj e1) e2
      exact ⟨w, c', by rw [q, z1], z2, e3⟩
  have slot : ∀ (i : Nat) (y : Option SV), sl[i]? = some y → SlotOk K F' H' (σ[i]?.join) (C.back1 y (C.look i rs fin)) := fun i y q => by
    have old := cor.ok i y q
    cases y with
    | none => rw [back1_non]; exact True.intro
    | some y =>
      cases ho : y.open? with
      | none =>
        rw [back1_shut _ ho]
        cases y with
        | val d => obtain ⟨w, h1, h2⟩ := old; exact ⟨w, h1, h2.mono st.ext.ff⟩
        | bval d => obtain ⟨w, h1, h2, h3⟩ := old; exact ⟨w, h1, h2.mono st.ext.ff, fun z => h3 (st.ext.ff.free z)⟩
        | own c => cases ho
        | bref c => cases ho
      | some c =>
        have oa : ∃ a, σ[i]? = some (some (.ref a)) ∧ CellAt K F H a c ∧ F a = none := by
          cases y with
          | val d => cases ho
          | bval d => cases ho
          | own d => cases ho; obtain ⟨a, h1, h2, h3⟩ := old; exact ⟨a, join_some h1, h2, h3⟩
          | bref d => cases ho; obtain ⟨a, h1, h2, h3⟩ := old; exact ⟨a, join_some h1, h2, h3⟩
        obtain ⟨a, ev, ca, fn⟩ := oa
        have me : OwnAt σ sl i a := ⟨y, c, q, ho, ev⟩
        by_cases hk : ∃ k : Nat, rs[k]? = some (RV.s i)
        · obtain ⟨k0, hk0⟩ := hk
          obtain ⟨k, _, hk1, hk2⟩ := look_none (fin := fin) hk0 lrs
          obtain ⟨v, h1, h2, h3⟩ := hnd hk1
          rw [ev] at h3; cases h3
          have hkx : ∃ x, xs[k]? = some x := by
            have : k < xs.length := by have := (List.getElem?_eq_some_iff.mp hk1).1; omega
            exact ⟨_, List.getElem?_eq_getElem this⟩
          obtain ⟨x, hx⟩ := hkx
          obtain ⟨r, h4, h5⟩ := args_get h hx
          rw [hk1] at h4; cases h4
          have hxb : x = .bref c := by
            rcases arg_cases h5 with ⟨d, z, _⟩ | ⟨i', d, z, e1, e2, e3, _⟩ | ⟨i', c', z, e1, e2, e3, e4⟩
            · cases z
            · cases e1
              rw [q] at e2; cases e2
              rcases e3 with rfl | rfl <;> cases ho
            · cases e1
              rw [q] at e2; cases e2
              rw [ho] at e3; cases e3
              exact e4
          subst hxb
          obtain ⟨_, y2, f1, f2⟩ := st.pin k _ (by rw [List.getElem?_map, hx]; rfl) (.inl ⟨c, rfl⟩)
          rw [hk2] at f1
          have f1 : C.look i rs fin = some y2 := Option.some.inj f1
          have so := st.cor.ok k _ (by rw [hk2, f1])
          rw [slot_join h2] at so
          rw [f1, slot_join ev]
          rcases f2 with ⟨c2, rfl⟩ | ⟨d2, rfl⟩
          · cases y with
            | val d => cases ho
            | bval d => cases ho
            | own d => exact so
            | bref d => exact so
          · obtain ⟨b, z, so, hb⟩ := so
            cases z
            cases y with
            | val d => cases ho
            | bval d => cases ho
            | own d => exact ⟨_, rfl, so⟩
            | bref d => exact ⟨_, rfl, so, hb⟩
        · have nl : C.look i rs fin = none := look_not fun k hk' => hk ⟨k, hk'⟩
          have no : ¬ Owns (vs.map some) (xs.map some) a := fun ⟨k, hk'⟩ => by
            obtain ⟨j, h1, h2⟩ := own k a hk'
            have ej := cor.dj i j a me h2
            subst ej
            exact hk ⟨k, h1⟩
          rw [nl, back1_keep, slot_join ev]
          obtain ⟨o, eo⟩ := ca.ex
          have fn' : F' a = none := none_of_not fun z => by
            rcases st.ext.nw a z with w | w | w
            · exact w fn
            · rw [w] at eo; cases eo
            · exact no w
          have ca' : CellAt K F' H' a c := ca.mono st.ext.ff fun o ho => st.ext.hh a o ho no
          cases y with
          | val d => cases ho
          | bval d => cases ho
          | own d => cases ho; exact ⟨a, rfl, ca', fn'⟩
          | bref d => cases ho; exact ⟨a, rfl, ca', fn'⟩
  refine ⟨st.ext.weak fun b ⟨k, hk⟩ => let ⟨i, _, h2⟩ := own k b hk; ⟨i, h2⟩, ⟨st.cor.ff, by unfold C.back; rw [back_len]; exact cor.len, fun i x e => ?_, fun i j a h1 h2 => cor.dj i j a (opn h1) (opn h2)⟩, fun a ⟨i, hi⟩ => .inl ⟨i, opn hi⟩, fun i x e hx => ⟨rfl, ?_⟩⟩
  · rw [bk] at e
    cases q : sl[i]? with
    | none => rw [q] at e; cases e
    | some y =>
      rw [q] at e
      have e : some (C.back1 y (C.look i rs fin)) = some x := e
      have e := Option.some.inj e
      subst e
      exact slot i y q
  · rw [bk, e]
    rcases hx with ⟨c, rfl⟩ | ⟨d, rfl⟩
    · rcases back1_bref c (C.look i rs fin) with ⟨c', h1⟩ | ⟨c', h1⟩
      · exact ⟨_, congrArg some h1, .inl ⟨_, rfl⟩⟩
      · exact ⟨_, congrArg some h1, .inr ⟨_, rfl⟩⟩
    · exact ⟨_, congrArg some (back1_shut _ rfl), .inr ⟨_, rfl⟩⟩
end

namespace C
/-- the arguments that may not be handed over open are let go into the data -/
@[simp] def frzM : List Bool → List RV → Sl → Option (List RV × Sl)
  | _, [], sl => some ([], sl)
  | true :: bs, r :: rs, sl => (match frzM bs rs sl with
    | some (rs', sl') => some (r :: rs', sl')
    | none => none)
  | bs, r :: rs, sl => (match frz r sl with
    | some (d, sl1) => (match frzM (bs.drop 1) rs sl1 with
      | some (rs', sl') => some (.v d :: rs', sl')
      | none => none)
    | none => none)
def ucallM (fl : List Bool) (f : List SV → CRes) (a : ADen) : Den := fun sl => match a sl with
  | .ok rs sl0 => (match frzM fl rs sl0 with
    | some (rs', sl1) => if distinct rs' = true then (match argsSV rs' sl1 with
      | some xs => (match f xs with
        | .ok (.v d) fin => .ok (.v d) (back rs' fin sl1)
        | .ok (.n c) fin => .ok (.n c) (back rs' fin sl1)
        | _ => .fail)
      | none => .fail) else .fail
    | none => .fail)
  | .exc x s => .exc x s
  | .fail => .fail
end C
theorem RVRL.keepAll {K : PySem.W.Frag} {H0 F F1 H : Hp} {σ : St} {sl sl1 : Sl} (s1 : Same F F1) : ∀ {vs : List V} {rs : List RV}, RVRL K H0 F H σ sl vs (rs.map opd) → RVRL K H0 F1 H σ sl1 vs (rs.map opd)
  | [], [], h => h
  | [], _ :: _, h => h.elim
  | _ :: _, [], h => h.elim
  | v :: vs, r :: rs, h => ⟨h.1.keep s1, RVRL.keepAll s1 h.2⟩
theorem frzM_ok {K : PySem.W.Frag} {H0 : Hp} {σ : St} {F0 : Hp} {sl0 : Sl} : ∀ {rs : List RV} {fl : List Bool} {vs : List V} {F H : Hp} {sl sl' : Sl} {rs' : List RV}, Step K F0 H0 σ sl0 F H σ sl → RVRL K H0 F H σ sl vs (rs.map opd) → C.frzM fl (rs.map opd) sl = some (rs', sl') →
    ∃ F', Step K F0 H0 σ sl0 F' H σ sl' ∧ RVRL K H0 F' H σ sl' vs rs' ∧ Same F F' ∧ rs'.length = rs.length
  | [], fl, [], F, H, sl, sl', rs', st, _, e => by
    have e : some (([] : List RV), sl) = some (rs', sl') := by cases fl <;> exact e
    cases e
    exact ⟨F, st, True.intro, Same.refl F, rfl⟩
  | [], _, _ :: _, _, _, _, _, _, _, h, _ => h.elim
  | _ :: _, _, [], _, _, _, _, _, _, h, _ => h.elim
  | r :: rs, fl, v :: vs, F, H, sl, sl', rs', st, h, e => by
    have other : ∀ bs : List Bool, (match frz (opd r) sl with
        | some (d, sl1) => (match C.frzM bs (rs.map opd) sl1 with
          | some (rs', sl') => some (RV.v d :: rs', sl')
          | none => none)
        | none => none) = some (rs', sl') → ∃ F', Step K F0 H0 σ sl0 F' H σ sl' ∧ RVRL K H0 F' H σ sl' (v :: vs) rs' ∧ Same F F' ∧ rs'.length = (r :: rs).length := fun bs e => by
      cases q : frz (opd r) sl with
      | none => rw [q] at e; cases e
      | some p =>
        obtain ⟨d, sl1⟩ := p
        rw [q] at e
        simp only at e
        obtain ⟨F1, st1, r1, s1⟩ := frz_ok st h.1 q
        cases q2 : C.frzM bs (rs.map opd) sl1 with
        | none => rw [q2] at e; cases e
        | some p2 =>
          obtain ⟨es, sl2⟩ := p2
          rw [q2] at e
          cases e
          obtain ⟨F2, st2, r2, s2, l2⟩ := frzM_ok st1 (RVRL.keepAll s1 h.2) q2
          exact ⟨F2, st2, ⟨r1.mono s2, r2⟩, s1.trans s2, congrArg (· + 1) l2⟩
    cases fl with
    | nil => exact other [] e
    | cons b bs =>
      cases b with
      | false => exact other bs e
      | true =>
        have e : (match C.frzM bs (rs.map opd) sl with
          | some (rs', sl') => some (opd r :: rs', sl')
          | none => none) = some (rs', sl') := e
        cases q2 : C.frzM bs (rs.map opd) sl with
        | none => rw [q2] at e; cases e
        | some p2 =>
          obtain ⟨es, sl2⟩ := p2
          rw [q2] at e
          cases e
          obtain ⟨F2, st2, r2, s2, l2⟩ := frzM_ok st h.2 q2
          exact ⟨F2, st2, ⟨h.1.keep s2, r2⟩, s2, congrArg (· + 1) l2⟩
section
variable {X : Cx} {xr : XRel} {wx : WX} {e : Expr} {es : List Expr} {da : ADen} {pos p : Pos}
/-- f(e, ..), f a def of the text -/
theorem ucall_ok {x : Str} {k n : Nat} {f : Addr} {fd : FuncData} {ps : List Str} {g : List SV → CRes} (o : opds da) (Fn : FnOk X.prog X.w X.K X.mg X.base CX0 k f fd ps (spOf X.K n g)) (hr : Room k X.A) (hg : Gl X x) (hm : X.mg x = some (.ref f)) (hk : PySem.W.keepIn X.K (.ref f) = true) (hb : Binds X.K fd ps [])
    (ha : PA X (e :: es) (rdA X.K xr wx da)) (hl : ∀ sl rs sl', da sl = .ok rs sl' → rs.length = n) (hdb : (x == ("__debug__" : Str)) = false) (he : starEach (e :: es) X.env = (false, eval e X.env) :: starEach es X.env) (hpl : (backTo pos (starEach es X.env)).any (·.1) = false) :
    PE X (.Call (.Name x p) (e :: es) [] pos) (rdE X.K xr wx (C.ucall g da)) :=
  PE.imp (pe_callSD (E := fun _ _ _ _ => False) Fn hr hg hm hk hb .nil (fun σ pins H s e s' I z => z.elim) ha hdb he hpl) fun σ H Q ⟨F, sl, cor, post⟩ => by
    refine ⟨F, sl, cor, ?_⟩
    unfold C.ucall at post
    cases e1 : da sl with
    | fail => rw [e1] at post; exact post.elim
    | exc x s => rw [e1] at post; exact post
    | ok rs sl1 =>
      rw [e1] at post
      intro F1 H1 vs st1 rv1
      simp only at post
      split at post
      · rename_i hd
        cases e2 : C.argsSV rs sl1 with
        | none => rw [e2] at post; exact post.elim
        | some xs =>
          rw [e2] at post
          simp only at post
          obtain ⟨ac, own⟩ := args_corr st1.cor rv1 hd e2
          have hn : vs.length = n := by rw [rvrl_len rv1]; exact hl _ _ _ e1
          have ns : ∀ {fin : Sl} {F' H' : Hp} {a : Addr}, Step X.K F H σ sl F' H' σ (C.back rs fin sl1) → Step X.K F1 H1 (vs.map some) (xs.map some) F' H' (vs.map some) fin → H1 a = none → H a = none ∧ ¬ Owns σ (C.back rs fin sl1) a := fun {fin F' H' a} st st2 ha => by
            refine ⟨st1.ext.th a ha, fun ⟨i, hi⟩ => ?_⟩
            have stb := step_back st1.cor rv1 hd e2 st2
            obtain ⟨x, c, q1, q2, q3⟩ := hi
            have bk : (C.back rs fin sl1)[i]? = (sl1[i]?).map fun x => C.back1 x (C.look i rs fin) := by
              unfold C.back
              rw [back_at, Nat.zero_add]
            rw [bk] at q1
            cases q : sl1[i]? with
            | none => rw [q] at q1; cases q1
            | some y =>
              rw [q] at q1
              have q1 : some (C.back1 y (C.look i rs fin)) = some (some x) := q1
              obtain ⟨w, c', z1, z2, _⟩ := back1_open (Option.some.inj q1) q2
              obtain ⟨_, o, ho⟩ := st1.cor.free ⟨i, w, c', by rw [q, z1], z2, q3⟩
              rw [ha] at ho; cases ho
          refine ⟨F1, xs, by simpa using hn, by simpa using ac, args_isArg e2, ?_⟩
          rw [List.append_nil]
          cases e3 : g xs with
          | fail => rw [e3] at post; exact post.elim
          | exc x s => rw [e3] at post; exact post.elim
          | ok r fin =>
            rw [e3] at post
            cases r with
            | s i => exact post.elim
            | v d =>
              intro F2 H2 v st2 rv2
              exact post F2 H2 v (st1.trans (step_back st1.cor rv1 hd e2 st2)) rv2
            | n c =>
              intro F2 H2 v st2 rv2
              have st := st1.trans (step_back st1.cor rv1 hd e2 st2)
              obtain ⟨a, e4, ca, hf, _, h0⟩ := rv2
              obtain ⟨n1, n2⟩ := ns st st2 h0
              exact post F2 H2 v st ⟨a, e4, ca, hf, n2, n1⟩
      · exact post.elim
/-- f(e, ..), f a def of the text -/
theorem ucallM_ok {fl : List Bool} {x : Str} {k n : Nat} {f : Addr} {fd : FuncData} {ps : List Str} {g : List SV → CRes} (o : opds da) (Fn : FnOk X.prog X.w X.K X.mg X.base CX0 k f fd ps (spOf X.K n g)) (hr : Room k X.A) (hg : Gl X x) (hm : X.mg x = some (.ref f)) (hk : PySem.W.keepIn X.K (.ref f) = true) (hb : Binds X.K fd ps [])
    (ha : PA X (e :: es) (rdA X.K xr wx da)) (hl : ∀ sl rs sl', da sl = .ok rs sl' → rs.length = n) (hdb : (x == ("__debug__" : Str)) = false) (he : starEach (e :: es) X.env = (false, eval e X.env) :: starEach es X.env) (hpl : (backTo pos (starEach es X.env)).any (·.1) = false) :
    PE X (.Call (.Name x p) (e :: es) [] pos) (rdE X.K xr wx (C.ucallM fl g da)) :=
  PE.imp (pe_callSD (E := fun _ _ _ _ => False) Fn hr hg hm hk hb .nil (fun σ pins H s e s' I z => z.elim) ha hdb he hpl) fun σ H Q ⟨F, sl, cor, post⟩ => by
    refine ⟨F, sl, cor, ?_⟩
    unfold C.ucallM at post
    cases e1 : da sl with
    | fail => rw [e1] at post; exact post.elim
    | exc x s => rw [e1] at post; exact post
    | ok rs0 sl00 =>
      rw [e1] at post
      intro F10 H1 vs st10 rv10
      simp only at post
      rw [← o _ _ _ e1] at post rv10
      cases e0 : C.frzM fl (rs0.map opd) sl00 with
      | none => rw [e0] at post; exact post.elim
      | some q0 =>
      obtain ⟨rs, sl1⟩ := q0
      rw [e0] at post
      simp only at post
      obtain ⟨F1, st1, rv1, _, hln⟩ := frzM_ok st10 rv10 e0
      split at post
      · rename_i hd
        cases e2 : C.argsSV rs sl1 with
        | none => rw [e2] at post; exact post.elim
        | some xs =>
          rw [e2] at post
          simp only at post
          obtain ⟨ac, own⟩ := args_corr st1.cor rv1 hd e2
          have hn : vs.length = n := by rw [rvrl_len rv1, hln]; exact hl _ _ _ e1
          have ns : ∀ {fin : Sl} {F' H' : Hp} {a : Addr}, Step X.K F H σ sl F' H' σ (C.back rs fin sl1) → Step X.K F1 H1 (vs.map some) (xs.map some) F' H' (vs.map some) fin → H1 a = none → H a = none ∧ ¬ Owns σ (C.back rs fin sl1) a := fun {fin F' H' a} st st2 ha => by
            refine ⟨st1.ext.th a ha, fun ⟨i, hi⟩ => ?_⟩
            have stb := step_back st1.cor rv1 hd e2 st2
            obtain ⟨x, c, q1, q2, q3⟩ := hi
            have bk : (C.back rs fin sl1)[i]? = (sl1[i]?).map fun x => C.back1 x (C.look i rs fin) := by
              unfold C.back
              rw [back_at, Nat.zero_add]
            rw [bk] at q1
            cases q : sl1[i]? with
            | none => rw [q] at q1; cases q1
            | some y =>
              rw [q] at q1
              have q1 : some (C.back1 y (C.look i rs fin)) = some (some x) := q1
              obtain ⟨w, c', z1, z2, _⟩ := back1_open (Option.some.inj q1) q2
              obtain ⟨_, o, ho⟩ := st1.cor.free ⟨i, w, c', by rw [q, z1], z2, q3⟩
              rw [ha] at ho; cases ho
          refine ⟨F1, xs, by simpa using hn, by simpa using ac, args_isArg e2, ?_⟩
          rw [List.append_nil]
          cases e3 : g xs with
          | fail => rw [e3] at post; exact post.elim
          | exc x s => rw [e3] at post; exact post.elim
          | ok r fin =>
            rw [e3] at post
            cases r with
            | s i => exact post.elim
            | v d =>
              intro F2 H2 v st2 rv2
              exact post F2 H2 v (st1.trans (step_back st1.cor rv1 hd e2 st2)) rv2
            | n c =>
              intro F2 H2 v st2 rv2
              have st := st1.trans (step_back st1.cor rv1 hd e2 st2)
              obtain ⟨a, e4, ca, hf, _, h0⟩ := rv2
              obtain ⟨n1, n2⟩ := ns st st2 h0
              exact post F2 H2 v st ⟨a, e4, ca, hf, n2, n1⟩
      · exact post.elim
end
end RF
set_option maxRecDepth 100000
namespace RF
open PySem PySem.Spec L2
/-! ### list comprehensions -/
@[simp] def wipeS (sl : Sl) : List Nat → Sl
  | [] => sl
  | v :: vs => (wipeS sl vs).set v none
@[simp] def backS (sl1 sl2 : Sl) : List Nat → Sl
  | [] => sl2
  | v :: vs => match sl1[v]? with
    | some x => (backS sl1 sl2 vs).set v x
    | none => backS sl1 sl2 vs
namespace C
def tyes : TDen := fun sl => .ok true sl
def lcrun (g : GDen) (t : TDen) (e : Den) (vs : List Nat) : List D → Sl → Option (List D × Sl)
  | [], sl => some ([], sl)
  | d :: ds, sl => match g.run d (wipeS sl vs) with
    | none => none
    | some sl1 => (match t sl1 with
      | .ok true sl2 => (match e sl2 with
        | .ok r sl3 => (match frz r sl3 with
          | some (y, sl4) => (match lcrun g t e vs ds sl4 with
            | some (ys, sl5) => some (y :: ys, sl5)
            | none => none)
          | none => none)
        | _ => none)
      | .ok false sl2 => lcrun g t e vs ds sl2
      | _ => none)
def lc (it : IDen) (g : GDen) (t : TDen) (e : Den) (vs : List Nat) : Den := fun sl => match it sl with
  | .ok ds sl1 => (match lcrun g t e vs ds (wipeS sl1 vs) with
    | some (ys, sl2) => if ys.length ≤ 1000000 then .ok (.n (.lst ys)) (backS sl1 (wipeS sl2 vs) vs) else .fail
    | none => .fail)
  | .exc x s => .exc x s
  | .fail => .fail
end C
section
variable {K : PySem.W.Frag} {F H F' H' H0 F0 F1 H1 : Hp} {σ σ0 σ' : St} {sl sl' sl0 sl1 : Sl} {v : V} {d : D}
theorem wipeS_len (sl : Sl) : ∀ vs : List Nat, (wipeS sl vs).length = sl.length
  | [] => rfl
  | v :: vs => by unfold wipeS; rw [List.length_set, wipeS_len sl vs]
theorem wipeS_at (sl : Sl) : ∀ (vs : List Nat) (i : Nat), (wipeS sl vs)[i]? = if i ∈ vs then (sl[i]?).map (fun _ => none) else sl[i]?
  | [], i => by simp [wipeS]
  | v :: vs, i => by
    unfold wipeS
    have ih := wipeS_at sl vs i
    by_cases hv : v = i
    · subst hv
      rw [if_pos (by simp)]
      by_cases hl : v < sl.length
      · rw [List.getElem?_set_self (by rw [wipeS_len]; exact hl), List.getElem?_eq_getElem hl]; rfl
      · rw [List.getElem?_eq_none (by rw [List.length_set, wipeS_len]; omega), List.getElem?_eq_none (by omega)]; rfl
    · rw [List.getElem?_set_ne hv, ih]
      by_cases hm : i ∈ vs
      · rw [if_pos hm, if_pos (by simp [hm])]
      · rw [if_neg hm, if_neg (by simp [hm]; exact fun z => hv z.symm)]
theorem wipe_at (σ : St) : ∀ (vs : List Nat) (i : Nat), (wipe σ vs)[i]? = if i ∈ vs then (σ[i]?).map (fun _ => none) else σ[i]?
  | [], i => by simp [wipe]
  | v :: vs, i => by
    unfold wipe
    have ih := wipe_at σ vs i
    by_cases hv : v = i
    · subst hv
      rw [if_pos (by simp)]
      by_cases hl : v < σ.length
      · rw [List.getElem?_set_self (by rw [wipe_length]; exact hl), List.getElem?_eq_getElem hl]; rfl
      · rw [List.getElem?_eq_none (by rw [List.length_set, wipe_length]; omega), List.getElem?_eq_none (by omega)]; rfl
    · rw [List.getElem?_set_ne hv, ih]
      by_cases hm : i ∈ vs
      · rw [if_pos hm, if_pos (by simp [hm])]
      · rw [if_neg hm, if_neg (by simp [hm]; exact fun z => hv z.symm)]
theorem wipe_wipe (σ : St) (vs : List Nat) : wipe (wipe σ vs) vs = wipe σ vs := by
  apply List.ext_getElem?
  intro i
  rw [wipe_at, wipe_at]
  by_cases hm : i ∈ vs
  · rw [if_pos hm, if_pos hm]
    cases σ[i]? <;> rfl
  · rw [if_neg hm, if_neg hm]
theorem wipe_out {vs tch : List Nat} (h : ∀ i ∈ tch, i ∈ vs) (hl : σ'.length = σ.length) (k : ∀ i : Nat, i ∉ tch → σ'[i]? = σ[i]?) : wipe σ' vs = wipe σ vs := by
  apply List.ext_getElem?
  intro i
  rw [wipe_at, wipe_at]
  by_cases hm : i ∈ vs
  · rw [if_pos hm, if_pos hm]
    by_cases hi : i < σ.length
    · rw [List.getElem?_eq_getElem hi, List.getElem?_eq_getElem (by omega)]; rfl
    · rw [List.getElem?_eq_none (by omega), List.getElem?_eq_none (by omega)]
  · rw [if_neg hm, if_neg hm]
    exact k i fun z => hm (h i z)
theorem backS_len {sl1 sl2 : Sl} : ∀ vs : List Nat, (backS sl1 sl2 vs).length = sl2.length
  | [] => rfl
  | v :: vs => by
    unfold backS
    split
    · rw [List.length_set, backS_len vs]
    · exact backS_len vs
theorem backS_at {sl1 sl2 : Sl} (hl : sl1.length = sl2.length) : ∀ (vs : List Nat) (i : Nat), (backS sl1 sl2 vs)[i]? = if i ∈ vs then sl1[i]? else sl2[i]?
  | [], i => by simp [backS]
  | v :: vs, i => by
    have ih := backS_at hl vs i
    unfold backS
    by_cases hv : v = i
    · subst hv
      rw [if_pos (by simp)]
      split
      · rename_i x q
        have hi := (List.getElem?_eq_some_iff.mp q).1
        rw [List.getElem?_set_self (by rw [backS_len]; omega), q]
      · rename_i q
        have hi := List.getElem?_eq_none_iff.mp q
        rw [q, List.getElem?_eq_none (by rw [backS_len]; omega)]
    · have e : (match sl1[v]? with
        | some x => (backS sl1 sl2 vs).set v x
        | none => backS sl1 sl2 vs)[i]? = (backS sl1 sl2 vs)[i]? := by
        split
        · exact List.getElem?_set_ne hv
        · rfl
      rw [e, ih]
      by_cases hm : i ∈ vs
      · rw [if_pos hm, if_pos (by simp [hm])]
      · rw [if_neg hm, if_neg (by simp [hm]; exact fun z => hv z.symm)]
theorem wiped_own {vs : List Nat} {i : Nat} {a : Addr} (h : OwnAt σ (wipeS sl vs) i a) : OwnAt σ sl i a ∧ i ∉ vs := by
  obtain ⟨x, c, e1, e2, e3⟩ := h
  rw [wipeS_at] at e1
  by_cases hm : i ∈ vs
  · rw [if_pos hm] at e1
    cases q : sl[i]? with
    | none => rw [q] at e1; cases e1
    | some y => rw [q] at e1; cases e1
  · rw [if_neg hm] at e1
    exact ⟨⟨x, c, e1, e2, e3⟩, hm⟩
theorem wiped_own2 {vs : List Nat} {i : Nat} {a : Addr} (h : OwnAt (wipe σ vs) (wipeS sl vs) i a) : OwnAt σ sl i a ∧ i ∉ vs := by
  obtain ⟨h1, hm⟩ := wiped_own h
  obtain ⟨x, c, e1, e2, e3⟩ := h1
  rw [wipe_at, if_neg hm] at e3
  exact ⟨⟨x, c, e1, e2, e3⟩, hm⟩
theorem wipe_own {vs : List Nat} {i : Nat} {a : Addr} (h : OwnAt (wipe σ vs) sl i a) : OwnAt σ sl i a ∧ i ∉ vs := by
  obtain ⟨x, c, e1, e2, e3⟩ := h
  rw [wipe_at] at e3
  by_cases hm : i ∈ vs
  · rw [if_pos hm] at e3
    cases q : σ[i]? with
    | none => rw [q] at e3; cases e3
    | some y => rw [q] at e3; cases e3
  · rw [if_neg hm] at e3
    exact ⟨⟨x, c, e1, e2, e3⟩, hm⟩
theorem wipeS_wipe (sl : Sl) (vs : List Nat) : wipeS (wipeS sl vs) vs = wipeS sl vs := by
  apply List.ext_getElem?
  intro i
  rw [wipeS_at, wipeS_at]
  by_cases hm : i ∈ vs
  · rw [if_pos hm, if_pos hm]
    cases sl[i]? <;> rfl
  · rw [if_neg hm, if_neg hm]
/-- a thing that stands apart changes -/
theorem step_upd {a : Addr} {o : HO} (st : Step K F0 H0 σ0 sl0 F H σ sl) (h0 : H0 a = none) (hF : F a = none) (no : ¬ Owns σ sl a) : Step K F0 H0 σ0 sl0 F (upd H a o) σ sl := by
  refine ⟨⟨st.ext.ff, fun b x e n => ?_, fun b e => ?_, st.ext.nw⟩, ⟨fun b x e => ?_, st.cor.len, fun i x e => ?_, st.cor.dj⟩, st.own, st.pin⟩
  · rw [upd_ne (fun z => by subst z; rw [h0] at e; cases e)]
    exact st.ext.hh b x e n
  · by_cases hb : b = a
    · subst hb; exact h0
    · rw [upd_ne hb] at e; exact st.ext.th b e
  · rw [upd_ne (fun z => by subst z; rw [hF] at e; cases e)]
    exact st.cor.ff b x e
  · have k := st.cor.ok i x e
    cases x with
    | none => exact True.intro
    | some x =>
      have op : ∀ {c : Cell} {b : Addr}, x.open? = some c → σ[i]?.join = some (.ref b) → CellAt K F H b c → CellAt K F (upd H a o) b c := fun {c b} ho ev ca => by
        refine ca.mono (Same.refl F) fun z hz => ?_
        rw [upd_ne (fun q => by subst q; exact no ⟨i, x, c, e, ho, join_some ev⟩)]
        exact hz
      cases x with
      | val d => exact k
      | bval d => exact k
      | own c => obtain ⟨b, h1, h2, h3⟩ := k; exact ⟨b, h1, op rfl h1 h2, h3⟩
      | bref c => obtain ⟨b, h1, h2, h3⟩ := k; exact ⟨b, h1, op rfl h1 h2, h3⟩
theorem corr_wipe (c : Corr K F H σ sl) (vs : List Nat) : Corr K F H (wipe σ vs) (wipeS sl vs) := by
  refine ⟨c.ff, by rw [wipe_length, wipeS_len]; exact c.len, fun i x e => ?_, fun i j a h1 h2 => c.dj i j a (wiped_own2 h1).1 (wiped_own2 h2).1⟩
  rw [wipeS_at] at e
  rw [wipe_at]
  by_cases hm : i ∈ vs
  · rw [if_pos hm] at e
    cases q : sl[i]? with
    | none => rw [q] at e; cases e
    | some y => rw [q] at e; cases e; exact True.intro
  · rw [if_neg hm] at e ⊢
    exact c.ok i x e
/-- at a turn's end the block's own slots are forgotten -/
theorem step_wipe {vs : List Nat} (st : Step K F0 H0 (wipe σ0 vs) (wipeS sl0 vs) F H σ sl) (hw : wipe σ vs = wipe σ0 vs) : Step K F0 H0 (wipe σ0 vs) (wipeS sl0 vs) F H (wipe σ0 vs) (wipeS sl vs) := by
  have hl : σ.length = σ0.length := by have := congrArg List.length hw; rw [wipe_length, wipe_length] at this; exact this
  have c := corr_wipe st.cor vs
  rw [hw] at c
  refine ⟨st.ext, c, fun a ⟨i, h⟩ => ?_, fun i x e hx => ?_⟩
  · rw [← hw] at h
    exact st.own a ⟨i, (wiped_own2 h).1⟩
  · obtain ⟨e1, y, e2, e3⟩ := st.pin i x e hx
    rw [wipeS_at] at e
    by_cases hm : i ∈ vs
    · rw [if_pos hm] at e
      cases q : sl0[i]? with
      | none => rw [q] at e; cases e
      | some y => rw [q] at e; cases e
    · exact ⟨rfl, y, by rw [wipeS_at, if_neg hm]; exact e2, e3⟩
/-- behind the block: the own slots as they were. D: an open list that stands apart -/
theorem step_unwipe {vs : List Nat} (cor : Corr K F0 H0 σ0 sl0) (st : Step K F0 H0 (wipe σ0 vs) (wipeS sl0 vs) F H (wipe σ0 vs) (wipeS sl vs)) : Step K F0 H0 σ0 sl0 F H σ0 (backS sl0 (wipeS sl vs) vs) := by
  have hl : sl0.length = (wipeS sl vs).length := by
    have h1 := st.cor.len
    rw [wipe_length] at h1
    exact cor.len.symm.trans h1
  have bk := backS_at hl vs
  have free : ∀ {i : Nat} {a : Addr}, i ∈ vs → OwnAt σ0 sl0 i a → ¬ Owns (wipe σ0 vs) (wipeS sl0 vs) a := fun {i a} hi h ⟨j, hj⟩ => by
    obtain ⟨h2, h3⟩ := wiped_own2 hj
    have e := cor.dj i j a h h2
    subst e
    exact h3 hi
  have own : ∀ {i : Nat} {a : Addr}, OwnAt σ0 (backS sl0 (wipeS sl vs) vs) i a → (i ∈ vs ∧ OwnAt σ0 sl0 i a) ∨ (i ∉ vs ∧ OwnAt (wipe σ0 vs) (wipeS sl vs) i a) := fun {i a} ⟨x, c, e1, e2, e3⟩ => by
    rw [bk] at e1
    by_cases hm : i ∈ vs
    · rw [if_pos hm] at e1
      exact .inl ⟨hm, x, c, e1, e2, e3⟩
    · rw [if_neg hm] at e1
      exact .inr ⟨hm, x, c, e1, e2, by rw [wipe_at, if_neg hm]; exact e3⟩
  have old : ∀ {i : Nat} {a : Addr}, OwnAt (wipe σ0 vs) (wipeS sl vs) i a → Owns σ0 sl0 a ∨ H0 a = none := fun {i a} h => by
    rcases st.own a ⟨i, h⟩ with ⟨j, q⟩ | q
    · exact .inl ⟨j, (wiped_own2 q).1⟩
    · exact .inr q
  -- an own slot's address is not met in the block
  have apart : ∀ {i j : Nat} {a : Addr}, i ∈ vs → OwnAt σ0 sl0 i a → ¬ OwnAt (wipe σ0 vs) (wipeS sl vs) j a := fun {i j a} hi h h2 => by
    rcases st.own a ⟨j, h2⟩ with q | q
    · exact free hi h q
    · obtain ⟨_, o, ho⟩ := cor.free ⟨i, h⟩
      rw [q] at ho; cases ho
  refine ⟨st.ext.weak fun b ⟨i, h⟩ => ⟨i, (wiped_own2 h).1⟩, ⟨st.cor.ff, by rw [backS_len, ← hl]; exact cor.len, fun i x e => ?_, fun i j a h1 h2 => ?_⟩, fun a ⟨i, h⟩ => ?_, fun i x e hx => ⟨rfl, ?_⟩⟩
  · rw [bk] at e
    by_cases hm : i ∈ vs
    · rw [if_pos hm] at e
      have k := cor.ok i x e
      cases x with
      | none => exact True.intro
      | some x =>
        have op : ∀ {c : Cell} {a : Addr}, x.open? = some c → σ0[i]?.join = some (.ref a) → CellAt K F0 H0 a c → F0 a = none → CellAt K F H a c ∧ F a = none := fun {c a} ho ev ca fn => by
          have no := free hm ⟨x, c, e, ho, join_some ev⟩
          refine ⟨ca.mono st.ext.ff fun o h => st.ext.hh a o h no, none_of_not fun z => ?_⟩
          rcases st.ext.nw a z with w | w | w
          · exact w fn
          · obtain ⟨o, ho⟩ := ca.ex; rw [w] at ho; cases ho
          · exact no w
        cases x with
        | val d => obtain ⟨w, h1, h2⟩ := k; exact ⟨w, h1, h2.mono st.ext.ff⟩
        | bval d => obtain ⟨w, h1, h2, h3⟩ := k; exact ⟨w, h1, h2.mono st.ext.ff, fun z => h3 (st.ext.ff.free z)⟩
        | own c => obtain ⟨a, h1, h2, h3⟩ := k; exact ⟨a, h1, op rfl h1 h2 h3⟩
        | bref c => obtain ⟨a, h1, h2, h3⟩ := k; exact ⟨a, h1, op rfl h1 h2 h3⟩
    · rw [if_neg hm] at e
      have k := st.cor.ok i x e
      rw [wipe_at, if_neg hm] at k
      exact k
  · rcases own h1 with ⟨m1, k1⟩ | ⟨m1, k1⟩ <;> rcases own h2 with ⟨m2, k2⟩ | ⟨m2, k2⟩
    · exact cor.dj i j a k1 k2
    · exact absurd k2 (apart m1 k1)
    · exact absurd k1 (apart m2 k2)
    · exact st.cor.dj i j a k1 k2
  · rcases own h with ⟨_, k⟩ | ⟨_, k⟩
    · exact .inl ⟨i, k⟩
    · exact old k
  · rw [bk]
    by_cases hm : i ∈ vs
    · rw [if_pos hm]
      exact ⟨x, e, hx⟩
    · rw [if_neg hm]
      obtain ⟨_, y, e2, e3⟩ := st.pin i x (by rw [wipeS_at, if_neg hm]; exact e) hx
      exact ⟨y, e2, e3⟩
end

section
variable {X : Cx} {xr : XRel} {wx : WX} {K : PySem.W.Frag}
theorem tyes_ok : PTs X [] (rdT X.K xr wx C.tyes) := ⟨fun pins s σ H Q I ⟨F, sl, cor, post⟩ => pts_nil.run pins s σ H Q I (post F H (.refl cor))⟩
theorem PTs.imp {es : List Expr} {t t' : TT} (h : PTs X es t) (w : ∀ σ H Q, t' σ H Q → t σ H Q) : PTs X es t' := ⟨fun pins s σ H Q I q => h.run pins s σ H Q I (w _ _ _ q)⟩
def LcInv (K : PySem.W.Frag) (g : GDen) (t : TDen) (e : Den) (vs : List Nat) (ds ys : List D) (sl1 sl2 : Sl) (F1 H1 : Hp) (D0 : Addr) (σ : St) (i : Nat) (H2 : Hp) : Prop :=
  ∃ (F2 : Hp) (slc : Sl) (acc rest : List D) (xs : List V), Step K F1 H1 (wipe σ vs) (wipeS sl1 vs) F2 H2 (wipe σ vs) (wipeS slc vs) ∧ C.lcrun g t e vs (ds.drop i) slc = some (rest, sl2) ∧ ys = acc ++ rest ∧
    H2 D0 = some (.lst xs) ∧ RepL K F2 xs acc ∧ F2 D0 = none ∧ ¬ Owns (wipe σ vs) (wipeS slc vs) D0
/-- what a comprehension comes to -/
theorem lc_step {it : IDen} {g : GDen} {t : TDen} {e : Den} {vs : List Nat} {σ : St} {H : Hp} {Q : VK} (ht : ∀ i ∈ g.tch, i ∈ vs) (h : rdE K xr wx (C.lc it g t e vs) σ H Q) : tLc (rdI K xr wx it) (rdG K g) (rdT K xr wx t) (rdE K xr wx e) vs σ H Q := by
  obtain ⟨F, sl, cor, post⟩ := h
  refine ⟨F, sl, cor, ?_⟩
  unfold C.lc at post
  cases e1 : it sl with
  | fail => rw [e1] at post; exact post.elim
  | exc x s => rw [e1] at post; exact fun F' H' cls d st hx => post F' H' cls d st hx
  | ok ds sl1 =>
    rw [e1] at post
    simp only at post
    intro F1 H1 J st1 hJ D0 hD
    cases e2 : C.lcrun g t e vs ds (wipeS sl1 vs) with
    | none => rw [e2] at post; exact post.elim
    | some q =>
      obtain ⟨ys, sl2⟩ := q
      rw [e2] at post
      simp only at post
      split at post
      · rename_i hz
        -- the new list stands open, no slot holds it
        have gr := grow_open (o := .lst []) st1.cor.ff hD
        have cor1 := st1.cor.grow gr
        have noD : ∀ {sl : Sl} {σ : St} {F : Hp}, Corr K F H1 σ sl → ¬ Owns σ sl D0 := fun {sl σ F} c z => by
          obtain ⟨_, o, ho⟩ := c.free z
          rw [hD] at ho; cases ho
        refine ⟨fun i m H2 => m = ds.length - i ∧ i ≤ ds.length ∧ LcInv K g t e vs ds ys sl1 sl2 F1 H1 D0 σ i H2, ⟨ds.length, by simp, Nat.zero_le _, F1, wipeS sl1 vs, [], ys, [], ?_, ?_, rfl, upd_same, .nil, st1.cor.ff.free hD, fun ⟨i, z⟩ => noD st1.cor ⟨i, by rw [wipeS_wipe] at z; exact (wiped_own2 z).1⟩⟩, ?_⟩
        · rw [wipeS_wipe]
          exact (Step.refl (corr_wipe st1.cor vs)).grow gr
        · rw [List.drop_zero]
          exact e2
        · rintro i m H2 ⟨rfl, hi, F2, slc, acc, rest, xs, st, hr, hys, hx, rx, fD, no⟩
          obtain ⟨j1, j2, j3⟩ := hJ F2 H2 st.ext.ff st.cor.ff i
          have keep : ∀ {F3 H3 : Hp} {σ3 : St} {sl3 : Sl}, Step K F2 H2 (wipe σ vs) (wipeS slc vs) F3 H3 σ3 sl3 → H3 D0 = some (.lst xs) ∧ F3 D0 = none ∧ ¬ Owns σ3 sl3 D0 := fun {F3 H3 σ3 sl3} s => by
            refine ⟨s.ext.hh D0 _ hx no, none_of_not fun z => ?_, fun z => ?_⟩
            · rcases s.ext.nw D0 z with w | w | w
              · exact w fD
              · rw [hx] at w; cases w
              · exact no w
            · rcases s.own D0 z with w | w
              · exact no w
              · rw [hx] at w; cases w
          by_cases hlt : i < ds.length
          · refine .inr ⟨j1 hlt, LcInv K g t e vs ds ys sl1 sl2 F1 H1 D0 σ (i + 1), fun H' p => ⟨ds.length - (i + 1), by omega, rfl, hlt, p⟩, fun x H' y => ?_⟩
            have hd : ds[i]? = some ds[i] := List.getElem?_eq_getElem hlt
            obtain ⟨F3, gr3, rp⟩ := j3 x H' ds[i] y hd
            have st3 := (Step.refl st.cor).grow gr3
            refine ⟨F3, wipeS slc vs, ds[i], st3.cor, rp, ?_⟩
            rw [List.drop_eq_getElem_cons hlt] at hr
            unfold C.lcrun at hr
            cases e3 : g.run ds[i] (wipeS slc vs) with
            | none => rw [e3] at hr; cases hr
            | some sl3 =>
              rw [e3] at hr
              simp only at hr
              intro F4 H4 σ4 st4 hl4 hk4
              have hw : wipe σ4 vs = wipe σ vs := (wipe_out ht hl4 fun i hi => (hk4 i hi).1).trans (wipe_wipe σ vs)
              refine ⟨hw, F4, sl3, st4.cor, ?_⟩
              cases e4 : t sl3 with
              | fail => rw [e4] at hr; cases hr
              | exc x s => rw [e4] at hr; cases hr
              | ok b sl4 =>
                rw [e4] at hr
                intro F5 H5 st5
                have s5 := (st3.trans st4).trans st5
                cases b with
                | false =>
                  rw [if_neg Bool.false_ne_true]
                  simp only at hr
                  obtain ⟨k1, k2, k3⟩ := keep s5
                  refine ⟨F5, sl4, acc, rest, xs, step_wipe (st.trans s5) hw, hr, hys, k1, rx.mono s5.ext.ff, k2, fun ⟨j, z⟩ => k3 ⟨j, ?_⟩⟩
                  have z2 := wiped_own2 (σ := σ) (sl := sl4) (vs := vs) z
                  rw [← hw] at z
                  exact (wiped_own2 z).1
                | true =>
                  rw [if_pos rfl]
                  simp only at hr
                  refine ⟨F5, sl4, st5.cor, ?_⟩
                  cases e5 : e sl4 with
                  | fail => rw [e5] at hr; cases hr
                  | exc x s => rw [e5] at hr; cases hr
                  | ok r sl5 =>
                    rw [e5] at hr
                    simp only at hr
                    intro F6 H6 v st6 rv
                    cases e6 : frz r sl5 with
                    | none => rw [e6] at hr; cases hr
                    | some q =>
                      obtain ⟨y1, sl6⟩ := q
                      rw [e6] at hr
                      simp only at hr
                      obtain ⟨F7, st7, rp7, sm7⟩ := frz_ok st6 rv e6
                      cases e7 : C.lcrun g t e vs (ds.drop (i + 1)) sl6 with
                      | none => rw [e7] at hr; cases hr
                      | some q =>
                        obtain ⟨ys2, sl7⟩ := q
                        rw [e7] at hr
                        cases hr
                        have s7 := s5.trans st7
                        obtain ⟨k1, k2, k3⟩ := keep s7
                        have hxl := rx.length
                        refine ⟨xs, k1, ?_, F7, sl6, acc ++ [y1], ys2, xs ++ [v], ?_, e7, by rw [hys]; simp, upd_same, (rx.mono s7.ext.ff).append (.cons rp7 .nil), k2, fun ⟨j, z⟩ => k3 ⟨j, ?_⟩⟩
                        · rw [hys, List.length_append] at hz
                          rw [sizeLine_eq, hxl]
                          omega
                        · exact step_wipe (step_upd (st.trans s7) hD k2 k3) hw
                        · rw [← hw] at z
                          exact (wiped_own2 z).1
          · have e : i = ds.length := by omega
            subst e
            rw [List.drop_length] at hr
            unfold C.lcrun at hr
            cases hr
            refine .inl ⟨j2 rfl, ?_⟩
            have su := step_unwipe st1.cor st
            rw [List.append_nil] at hys
            subst hys
            refine post F2 H2 (.ref D0) (st1.trans su) ⟨D0, rfl, ⟨xs, hx, rx⟩, fD, fun ⟨j, z⟩ => ?_, st1.ext.th D0 hD⟩
            obtain ⟨x, c, q1, q2, q3⟩ := z
            have hl : sl1.length = (wipeS sl2 vs).length := by
              have h1 := st.cor.len
              rw [wipe_length] at h1
              exact st1.cor.len.symm.trans h1
            rw [backS_at hl] at q1
            by_cases hm : j ∈ vs
            · rw [if_pos hm] at q1
              exact noD st1.cor ⟨j, x, c, q1, q2, q3⟩
            · rw [if_neg hm] at q1
              exact no ⟨j, x, c, q1, q2, by rw [wipe_at, if_neg hm]; exact q3⟩
      · exact post.elim
end
end RF
set_option maxRecDepth 100000
namespace RF
open PySem PySem.Spec L2
/-! ### t[::-1] of a tuple -/
section
variable {prog : Program} {w : World} {A : Around} {E : Value → Shared → Prop} {s : Shared}
theorem bk_adjust (n : Nat) : Builtin.Slice.sliceAdjust none none (-1) (n : Int) = ((n : Int) - 1, -1) := by
  unfold Builtin.Slice.sliceAdjust
  first
    | rfl
    | simp
theorem bk_places (n : Nat) : Builtin.Slice.slicePlaces ((n : Int) - 1) (-1) (-1) = n := by
  unfold Builtin.Slice.slicePlaces
  have h1 : ¬ ((-1 : Int) > 0) := by omega
  simp only [h1, if_false]
  by_cases hn : n = 0
  · subst hn; simp
  · have e1 : (- -1 : Int) = 1 := by decide
    rw [e1, Int.ediv_one]
    split <;> omega
theorem bk_pick (xs : Array Value) : ((List.range xs.size).filterMap fun (m : Nat) => xs[((xs.size : Int) - 1 + (m : Int) * -1).toNat]?).toArray = xs.toList.reverse.toArray := by
  have e : ∀ m ∈ List.range xs.size, xs[((xs.size : Int) - 1 + (m : Int) * -1).toNat]? = (fun k => xs[k]?) (xs.size - 1 - m) := fun m hm => by
    have := List.mem_range.mp hm
    have e2 : ((xs.size : Int) - 1 + (m : Int) * -1).toNat = xs.size - 1 - m := by omega
    rw [e2]
  have ec : (List.range xs.size).filterMap (fun (m : Nat) => xs[((xs.size : Int) - 1 + (m : Int) * -1).toNat]?) = (List.range xs.size).filterMap fun m => (fun k => xs[k]?) (xs.size - 1 - m) := by
    have gen : ∀ (l : List Nat), (∀ m ∈ l, xs[((xs.size : Int) - 1 + (m : Int) * -1).toNat]? = (fun k => xs[k]?) (xs.size - 1 - m)) → l.filterMap (fun (m : Nat) => xs[((xs.size : Int) - 1 + (m : Int) * -1).toNat]?) = l.filterMap fun m => (fun k => xs[k]?) (xs.size - 1 - m) := fun l => by
      induction l with
      | nil => intro _; rfl
      | cons a l ih =>
        intro h
        rw [List.filterMap_cons, List.filterMap_cons, h a (by simp), ih fun m hm => h m (by simp [hm])]
    exact gen _ e
  rw [ec]
  have h1 := PySem.W.krv_range xs.size
  have h2 : (List.range xs.size).filterMap (fun m => (fun k => xs[k]?) (xs.size - 1 - m)) = ((List.range xs.size).map fun k => xs.size - 1 - k).filterMap fun k => xs[k]? := by
    rw [List.filterMap_map]; rfl
  rw [h2, h1, List.filterMap_reverse, PySem.W.krv_all]
theorem bk_applied {sl : Addr} {vs : Value} {n : Nat} {Q : Int × Int × Nat → Shared → Prop} (hs : s.heap.IsSliceOf sl .none .none vs) (ps : IsPart vs (some (-1)))
    (h : Q ((n : Int) - 1, -1, n) s) : wpAny (model prog w) A (Builtin.Slice.sliceApplied (.ref sl) (pure (n : Int))) Q E s := by
  obtain ⟨os, hos, hcs, hds⟩ := id hs
  unfold Builtin.Slice.sliceApplied Builtin.Slice.sliceFields
  refine wpAny_bind (wpAny_bind (wpAny_field hos hds (x := .none) rfl (wpAny_bind (wpAny_field hos hds (x := .none) rfl (wpAny_bind (wpAny_field hos hds (x := vs) rfl (wpAny_pure ?_)))))))
  refine wpAny_bind (HT.slicePart_ ps ?_)
  show wpAny _ _ (if ((-1 : Int) == 0) = true then _ else _) _ _ s
  rw [if_neg (by decide)]
  refine wpAny_bind (HT.slicePart_ .none (wpAny_bind (HT.slicePart_ .none (wpAny_bind (wpAny_pure ?_)))))
  show wpAny _ _ (match Builtin.Slice.sliceAdjust none none (-1) (n : Int) with | (lo, hi) => pure (lo, (-1 : Int), Builtin.Slice.slicePlaces lo hi (-1))) _ _ s
  rw [bk_adjust]
  show wpAny _ _ (pure ((n : Int) - 1, (-1 : Int), Builtin.Slice.slicePlaces ((n : Int) - 1) (-1) (-1))) _ _ s
  rw [bk_places]
  exact wpAny_pure h
theorem bk_item {t sl : Addr} {items : Array Value} {vs : Value} {Q : Value → Shared → Prop} (ht : PyProof.Rows.IsTup s.heap t items) (hs : s.heap.IsSliceOf sl .none .none vs) (ps : IsPart vs (some (-1)))
    (h : Q (.ref s.heap.objs.size) { s with heap := s.heap.push { cls := .type "tuple", data := .seq items.toList.reverse.toArray } }) (hsz : items.size ≤ sizeLine) : wpAny (model prog w) A (getItem (.ref t) (.ref sl)) Q E s := by
  have htake : sizeOk (.seq items.toList.reverse.toArray) := by
    show items.toList.reverse.toArray.size ≤ sizeLine
    rw [List.size_toArray, List.length_reverse, Array.length_toList]
    exact hsz
  obtain ⟨os, hos, hcs, hds⟩ := id hs
  have hTs : s.TypeIs (.ref sl) "slice" := ⟨os, hos, hcs⟩
  unfold getItem
  try with_reducible refine wpAny_holding ?_
  first | refine wpAny_bind (wpAny_pure ?_) | skip
  refine wpAny_bind (wpAny_sequenceKey (PyProof.Rows.IsTup.typeIs ht) (by decide) ?_)
  refine wpAny_bind (wpAny_callSpecial?_slot (name := Str.ofString "__getitem__") (PyProof.Rows.IsTup.typeIs ht) PyProof.Rows.slot_tuple_getitem
    (wpAny_call_entry PyProof.Rows.slot_tuple_getitem (PyProof.Rows.IsTup.typeIs ht) PyProof.Rows.entry_tuple_getitem ?_ (PyProof.Rows.args_tuple_getitem _ _)))
  show wpAny _ _ (Builtin.Tuple.tupleItemsOf (.ref t) >>= _) _ _ s
  refine wpAny_bind (PyProof.Rows.tupleItemsOf_ ht ?_)
  refine wpAny_bind (wpAny_typeOf hTs ?_)
  rw [if_pos (by decide)]
  refine wpAny_bind (bk_applied hs ps ?_)
  have hno : ¬ ((((items.size : Int) - 1) == 0 && (-1 : Int) == 1 && items.size == items.size) = true) := by
    rw [show ((-1 : Int) == 1) = false by decide, Bool.and_false, Bool.false_and]
    exact Bool.false_ne_true
  show wpAny _ _ (if (((items.size : Int) - 1) == 0 && (-1 : Int) == 1 && items.size == items.size) = true then _ else _) _ _ s
  rw [if_neg hno, bk_pick]
  first
    | exact wpAny_bind (m := Builtin.Tuple.tupleExact _) (wpAny_newObj_type (wpAny_pure ⟨_, rfl, wpAny_pure h⟩) htake)
    | exact wpAny_bind (m := Builtin.Tuple.tupleExact _) (wpAny_newObj_type (wpAny_bind (wpAny_pure (wpAny_pure ⟨_, rfl, wpAny_pure h⟩))) htake)
    | exact wpAny_bind (wpAny_bind (m := Builtin.Tuple.tupleExact _) (wpAny_newObj_type (wpAny_pure (wpAny_pure ⟨_, rfl, wpAny_pure h⟩)) htake))
    | exact wpAny_bind (wpAny_bind (m := Builtin.Tuple.tupleExact _) (wpAny_newObj_type (wpAny_pure ⟨_, rfl, wpAny_pure h⟩) htake))
end
section
variable {X : Cx}
/-- x[::-1], a list or a tuple -/
def tBack (K : PySem.W.Frag) (te : TE) : TE := fun σ H Q => te σ H fun x H1 => ∃ a xs, x = .ref a ∧ ((SqL K H1 a xs ∧ ∀ p, H1 p = none → Q (.ref p) (upd H1 p (.lst xs.reverse))) ∨ (SqT K H1 a xs ∧ ∀ p, H1 p = none → Q (.ref p) (upd H1 p (.tup xs.reverse))))
theorem pe_back {e : Expr} {te : TE} {k : Nat} {p1 p2 p3 pos : Pos} (he : PE X e te) : PE X (.Subscript e (.Slice none none (some (.UnaryOp .USub (.Constant (.int 1) k p1) p2)) p3) pos) (tBack X.K te) := by
  refine ⟨fun pins s σ H Q I h => ?_⟩
  refine PyProof.Rows.Subscript_ (thn (he.run pins s σ H _ I h) fun v s1 ⟨x, H1, I1, r1, q1⟩ => ?_)
  obtain ⟨a, xs, ex, q⟩ := q1
  subst ex
  cases r1
  have hst : PO X (some (.UnaryOp .USub (.Constant (.int 1) k p1) p2)) (tPart (tUn (rU fun i => .int (-i)) (tC (.int 1)))) := po_some (pe_un un_neg pe_int)
  refine wpAny_Slice (thn (po_none.run pins s1 σ H1 (fun o H2 => o = none ∧ H2 = H1) I1 ⟨rfl, rfl⟩) fun vl s2 ⟨l, H2, I2, pl, el, e2⟩ => ?_)
  subst el e2
  refine thn (po_none.run pins s2 σ H2 (fun o H3 => o = none ∧ H3 = H2) I2 ⟨rfl, rfl⟩) fun vu s3 ⟨u, H3, I3, pu, eu, e3⟩ => ?_
  subst eu e3
  refine thn (hst.run pins s3 σ H3 (fun o H4 => o = some (-1) ∧ H4 = H3) I3 ⟨1, rfl, -1, rfl, rfl, rfl⟩) fun vs s4 ⟨o, H4, I4, ps, eo, e4⟩ => ?_
  subst eo e4
  have I5 : Inv X pins σ H4 { s4 with heap := s4.heap.push { cls := .type "slice", data := .fields #[vl, vu, vs] } } := I4.kept (t' := s4.toks) fun b ob q => Heap.get?_push_of_some _ q
  show wpAny (model X.prog X.w) X.A (PyProof.Rows.subscriptTail e (.Slice none none (some (.UnaryOp .USub (.Constant (.int 1) k p1) p2)) p3) (.ref a) (.ref s4.heap.objs.size)) (EP X pins σ Q) X.xe { s4 with heap := s4.heap.push { cls := .type "slice", data := .fields #[vl, vu, vs] } }
  rcases q with ⟨hx, q⟩ | ⟨hx, q⟩
  · obtain ⟨its, r, ht, hz⟩ := I5.list hx
    have hlen := r.length
    refine PyProof.Rows.tail_any (ops := [.ref a, .ref s4.heap.objs.size]) ht.isList.typeIs (PySem.slot_list_getitem.lookup) ?_ (by with_unfolding_all rfl)
    refine wpAny_getItem_list_slice ht.isList (Heap.IsSliceOf.new _ vl vu vs) pl pu ps (by decide) ?_ (by rw [List.size_toArray]; omega)
    rw [PySem.W.krv_pick]
    refine ⟨.ref _, _, I5.laid (t' := s4.toks) (o := .lst xs.reverse) (fun b ob q => Heap.get?_push_of_some _ q) (Nat.le_refl _) ?_, rfl, q _ (I5.hok.fresh (Nat.le_refl _))⟩
    exact ⟨by rw [List.length_reverse]; exact hz, _, 0, r.reverse, Heap.get?_push_size _ rfl⟩
  · obtain ⟨its, r, ht, hz⟩ := I5.tuple hx
    have hlen := r.length
    refine PyProof.Rows.tail_any (ops := [.ref a, .ref s4.heap.objs.size]) (PyProof.Rows.IsTup.typeIs ht) (PyProof.Rows.slot_tuple_getitem.lookup) ?_ (by with_unfolding_all rfl)
    cases pl
    cases pu
    refine bk_item ht (Heap.IsSliceOf.new _ .none .none vs) ps ?_ (by rw [List.size_toArray]; omega)
    refine ⟨.ref _, _, I5.laid (t' := s4.toks) (o := .tup xs.reverse) (fun b ob q => Heap.get?_push_of_some _ q) (Nat.le_refl _) ?_, rfl, q _ (I5.hok.fresh (Nat.le_refl _))⟩
    exact ⟨by rw [List.length_reverse]; exact hz, _, r.reverse, PyProof.Rows.IsTup.new _ _⟩
end
end RF
set_option maxRecDepth 100000
namespace RF
open PySem PySem.Spec L2
section
variable {X : Cx} {xr : XRel} {wx : WX} {a b c e : Expr} {es : List Expr} {da db dc : Den} {pos : Pos}
/-! ### comprehensions -/
theorem lc_ok {elt tg iter : Expr} {ifs : List Expr} {scope : Scope} {own : List (Str × Nat)} {it : IDen} {g : GDen} {t : TDen} {d : Den} (hc : X.calm = true) (hN : X.N.Nodup) (hi : PI X tg iter (rdI X.K xr wx it)) (ok : BlkOk X.N X.env.scope scope own)
    (hg : ∀ (s : Shared) (H : Hp) (C : Addr) (cl : List (Str × Addr)) (fp : List Addr), PG (X.blk s H scope (compEnvC scope cl C X.env) fp) tg (rdG X.K g)) (ht : ∀ (s : Shared) (H : Hp) (C : Addr) (cl : List (Str × Addr)) (fp : List Addr), PTs (X.blk s H scope (compEnvC scope cl C X.env) fp) ifs (rdT X.K xr wx t))
    (he : ∀ (s : Shared) (H : Hp) (C : Addr) (cl : List (Str × Addr)) (fp : List Addr), PE (X.blk s H scope (compEnvC scope cl C X.env) fp) elt (rdE X.K xr wx d)) (hs : ∀ x, foldedSetIterable iter X.env x = pure x) (htch : ∀ i ∈ g.tch, i ∈ own.map (·.2)) :
    PE X (.ListComp elt [⟨tg, iter, ifs, 0⟩] scope pos) (rdE X.K xr wx (C.lc it g t d (own.map (·.2)))) :=
  PE.imp (pe_lc hc hN hi ok hg ht he hs) fun σ H Q h => lc_step htch h
/-- a value that is stored -/
theorem set_step {K : PySem.W.Frag} {i : Nat} {E : Ends} {σ : St} {H : Hp} (h : rdS K xr wx (C.set i da) E σ H) : rdE K xr wx da σ H (fun x H1 => gName i x σ H1 E.nx) := by
  obtain ⟨F, sl, cor, post⟩ := h
  refine ⟨F, sl, cor, ?_⟩
  unfold C.set at post
  cases e1 : da sl with
  | fail => rw [e1] at post; exact post.elim
  | exc x s => rw [e1] at post; exact fun F' H' cls d st hx => post F' H' σ cls d st hx
  | ok r sl1 =>
    rw [e1] at post
    simp only at post
    intro F1 H1 v1 st1 rv1
    cases e2 : C.settle r sl1 with
    | none => rw [e2] at post; exact post.elim
    | some q =>
      obtain ⟨r', sl2⟩ := q
      rw [e2] at post
      simp only at post
      obtain ⟨F2, st2, rv2, _⟩ := settle_ok st1 rv1 e2
      cases e3 : C.put i r' sl2 with
      | none => rw [e3] at post; exact post.elim
      | some sl3 =>
        rw [e3] at post
        exact post F2 H1 _ (put_ok st2 rv2 e3).1
theorem setLc_ok {i : Nat} {y : Str} {py : Pos} {elt tg iter : Expr} {ifs : List Expr} {scope : Scope} {own : List (Str × Nat)} {spos : Pos} {it : IDen} {g : GDen} {t : TDen} {d : Den} (hc : X.calm = true) (hN : X.N.Nodup) (hy : X.N[i]? = some y) (hyl : X.env.scope.names.lookup y = some .local)
    (hsw : swapsWith (.ListComp elt [⟨tg, iter, ifs, 0⟩] scope pos) (some (.Name y py)) spos.line X.env = pure true) (hi : PI X tg iter (rdI X.K xr wx it)) (ok : BlkOk X.N X.env.scope scope own)
    (hg : ∀ (s : Shared) (H : Hp) (C : Addr) (cl : List (Str × Addr)) (fp : List Addr), PG (X.blk s H scope (compEnvC scope cl C X.env) fp) tg (rdG X.K g)) (ht : ∀ (s : Shared) (H : Hp) (C : Addr) (cl : List (Str × Addr)) (fp : List Addr), PTs (X.blk s H scope (compEnvC scope cl C X.env) fp) ifs (rdT X.K xr wx t))
    (he : ∀ (s : Shared) (H : Hp) (C : Addr) (cl : List (Str × Addr)) (fp : List Addr), PE (X.blk s H scope (compEnvC scope cl C X.env) fp) elt (rdE X.K xr wx d)) (hs : ∀ x, foldedSetIterable iter X.env x = pure x) (htch : ∀ i ∈ g.tch, i ∈ own.map (·.2)) :
    PS X (.Assign [.Name y py] (.ListComp elt [⟨tg, iter, ifs, 0⟩] scope pos) spos) (rdS X.K xr wx (C.set i (C.lc it g t d (own.map (·.2))))) :=
  PS.imp (ps_setLc hc hN hy hyl hsw hi ok hg ht he hs) fun E σ H h => lc_step htch (set_step h)
end

/-! ### slices -/
inductive PRes where
  | ok (o : Option Int) (sl : Sl) | exc (x : Exn) (sl : Sl) | fail
abbrev PDen := Sl → PRes
def PostP (K : PySem.W.Frag) (xr : XRel) (wx : WX) (F H : Hp) (σ : St) (sl : Sl) (res : PRes) (Q : Option Int → Hp → Prop) : Prop := match res with
  | .ok o sl' => ∀ F' H', Step K F H σ sl F' H' σ sl' → Q o H'
  | .exc x sl' => ∀ F' H' cls d, Step K F H σ sl F' H' σ sl' → xr cls d H' x → wx cls d σ H'
  | .fail => False
def rdP (K : PySem.W.Frag) (xr : XRel) (wx : WX) (d : PDen) : TO := fun σ H Q => ∃ F sl, Corr K F H σ sl ∧ PostP K xr wx F H σ sl (d sl) Q
def cutD (ds : List D) (lo hi : Option Int) : List D := (ds.drop (HT.sIx ds.length 0 lo)).take (HT.sIx ds.length ds.length hi - HT.sIx ds.length 0 lo)
namespace O
@[simp] def slice (lo hi : Option Int) : D → Option RV
  | .lst ds => some (.n (.lst (cutD ds lo hi)))
  | .tup ds => some (.v (.tup (cutD ds lo hi)))
  | .kls ds => some (.n (.lst (cutD ds lo hi)))
  | _ => none
@[simp] def backw : D → Option RV
  | .lst ds => some (.n (.lst ds.reverse))
  | .tup ds => some (.v (.tup ds.reverse))
  | _ => none
end O
namespace C
def pnone : PDen := fun sl => .ok none sl
def psome (d : Den) : PDen := fun sl => match d sl with
  | .ok (.v (.int i)) sl1 => .ok (some i) sl1
  | .exc x s => .exc x s
  | _ => .fail
def slice (a : Den) (l h : PDen) : Den := fun sl => match a sl with
  | .ok r1 sl1 => (match l sl1 with
    | .ok lo sl2 => (match h sl2 with
      | .ok hi sl3 => (match rd (opd r1) sl3 with
        | some d => ofO (O.slice lo hi d) sl3
        | none => .fail)
      | .exc x s => .exc x s
      | .fail => .fail)
    | .exc x s => .exc x s
    | .fail => .fail)
  | .exc x s => .exc x s
  | .fail => .fail
end C
section
variable {X : Cx} {xr : XRel} {wx : WX} {a b c e : Expr} {es : List Expr} {da db dc : Den} {pos p2 : Pos}
theorem pnone_ok : PO X none (rdP X.K xr wx C.pnone) := PO.imp po_none fun σ H Q ⟨F, sl, cor, post⟩ => post F H (.refl cor)
theorem psome_ok (he : PE X e (rdE X.K xr wx da)) : PO X (some e) (rdP X.K xr wx (C.psome da)) := PO.imp (po_some he) fun σ H Q ⟨F, sl, cor, post⟩ => by
  refine ⟨F, sl, cor, ?_⟩
  unfold C.psome at post
  cases e1 : da sl with
  | fail => rw [e1] at post; exact post.elim
  | exc x s => rw [e1] at post; exact post
  | ok r sl1 =>
    rw [e1] at post
    cases r with
    | v d =>
      cases d with
      | int i =>
        intro F' H' v st rv
        have rv : Rep X.K F' v (.int i) := rv
        cases rv
        exact ⟨i, rfl, post F' H' st⟩
      | _ => exact post.elim
    | n c => exact post.elim
    | s i => exact post.elim
def rSlice (K : PySem.W.Frag) : V → Option Int → Option Int → Hp → VK → Prop := fun x lo hi H Q => ∃ F d, Same F H ∧ RepO K F H x d ∧ PostO K F H (O.slice lo hi d) Q
theorem cut_rep {K : PySem.W.Frag} {F : Hp} {xs : List V} {ds : List D} (r : RepL K F xs ds) (lo hi : Option Int) : RepL K F (cutV xs lo hi) (cutD ds lo hi) := by
  unfold cutV cutD
  rw [r.length]
  exact (r.drop _).take _
theorem SlR.imp {r r' : V → Option Int → Option Int → Hp → VK → Prop} (h : SlR X r) (w : ∀ x lo hi H Q, r' x lo hi H Q → r x lo hi H Q) : SlR X r' := fun pins s σ H x v vl vu lo hi sl Q I rx hs pl pu q => h pins s σ H x v vl vu lo hi sl Q I rx hs pl pu (w _ _ _ _ _ q)
theorem sl_ok : SlR X (rSlice X.K) := SlR.imp (SlR.or sl_list sl_tupA) fun x lo hi H Q ⟨F, d, s, hx, q⟩ => by
  cases d with
  | lst ds =>
    obtain ⟨a, xs, rfl, t, r⟩ := hx.lst s
    exact .inl ⟨a, xs, rfl, .inl t, fun p hp => q.lst s (cut_rep r lo hi) hp⟩
  | tup ds =>
    obtain ⟨a, xs, rfl, t, r⟩ := hx.tup
    refine .inr ⟨a, xs, rfl, sameT s t, fun hw => ?_, fun _ p hp => q.tup s (cut_rep r lo hi) hp⟩
    refine q.dat s ?_
    have e : cutD ds lo hi = ds := by
      unfold cutD
      rw [← r.length, hw.1, hw.2, List.drop_zero, Nat.sub_zero, r.length, List.take_length]
    rw [e]
    exact .tup t r
  | kls ds =>
    have k := hx.data fun _ z => nomatch z
    clear hx
    cases k with
    | kls t r => exact .inl ⟨_, _, rfl, sameL s t, fun p hp => q.lst s (cut_rep r lo hi) hp⟩
  | _ => exact q.elim
theorem slice_step {K : PySem.W.Frag} {dl dh : PDen} {σ : St} {H : Hp} {Q : VK} (h : rdE K xr wx (C.slice da dl dh) σ H Q) : tSl (rSlice K) (rdE K xr wx da) (rdP K xr wx dl) (rdP K xr wx dh) σ H Q := by
  obtain ⟨F, sl, cor, post⟩ := h
  refine ⟨F, sl, cor, ?_⟩
  unfold C.slice at post
  cases e1 : da sl with
  | fail => rw [e1] at post; exact post.elim
  | exc x s => rw [e1] at post; exact post
  | ok r1 sl1 =>
    rw [e1] at post
    intro F1 H1 v1 st1 rv1
    obtain ⟨F1', st1', rv1', _⟩ := opd_ok st1 rv1
    refine ⟨F1', sl1, st1'.cor, ?_⟩
    simp only at post
    cases e2 : dl sl1 with
    | fail => rw [e2] at post; exact post.elim
    | exc x s =>
      rw [e2] at post
      exact fun F2 H2 cls d st2 hx => post F2 H2 cls d (st1'.trans st2) hx
    | ok lo sl2 =>
      rw [e2] at post
      simp only at post
      intro F2 H2 st2
      have st12 := st1'.trans st2
      refine ⟨F2, sl2, st2.cor, ?_⟩
      cases e3 : dh sl2 with
      | fail => rw [e3] at post; exact post.elim
      | exc x s =>
        rw [e3] at post
        exact fun F3 H3 cls d st3 hx => post F3 H3 cls d (st12.trans st3) hx
      | ok hi sl3 =>
        rw [e3] at post
        simp only at post
        intro F3 H3 st3
        have st13 := st12.trans st3
        cases e4 : rd (opd r1) sl3 with
        | none => rw [e4] at post; exact post.elim
        | some d =>
          rw [e4] at post
          exact ⟨F3, d, st3.cor.ff, rd_ok (H0 := H) st3.cor (rv1'.keep (st2.trans st3).ext.ff) e4, fin_O st13 post⟩
theorem slice_ok {lo hi : Option Expr} {dl dh : PDen} (he : PE X e (rdE X.K xr wx da)) (hl : PO X lo (rdP X.K xr wx dl)) (hu : PO X hi (rdP X.K xr wx dh)) : PE X (.Subscript e (.Slice lo hi none p2) pos) (rdE X.K xr wx (C.slice da dl dh)) :=
  PE.imp (pe_slice sl_ok he hl hu) fun σ H Q h => slice_step h
theorem back_ok {k : Nat} {p1 p2 p3 : Pos} (he : PE X e (rdE X.K xr wx da)) : PE X (.Subscript e (.Slice none none (some (.UnaryOp .USub (.Constant (.int 1) k p1) p2)) p3) pos) (rdE X.K xr wx (C.un O.backw da)) :=
  PE.imp (pe_back he) fun σ H Q h => by
    obtain ⟨F, sl, cor, post⟩ := one_ok h
    refine ⟨F, sl, cor, ?_⟩
    cases e1 : da sl with
    | fail => rw [e1] at post; exact post.elim
    | exc x s => rw [e1] at post; exact post
    | ok r sl1 =>
      rw [e1] at post
      intro F1 H1 v st rv
      obtain ⟨F2, d, s, hx, q⟩ := post F1 H1 v st rv
      cases d with
      | lst ds =>
        obtain ⟨a, xs, rfl, t, r⟩ := hx.lst s
        exact ⟨a, xs, rfl, .inl ⟨.inl t, fun p hp => q.lst s r.reverse hp⟩⟩
      | tup ds =>
        obtain ⟨a, xs, rfl, t, r⟩ := hx.tup
        exact ⟨a, xs, rfl, .inr ⟨sameT s t, fun p hp => q.tup s r.reverse hp⟩⟩
      | _ => exact q.elim
end

/-! ### isinstance -/
@[simp] def tyN : D → Option String
  | .non => some "NoneType"
  | .bl _ => some "bool"
  | .int _ => some "int"
  | .str _ => some "str"
  | .tup _ => some "tuple"
  | .lst _ => some "list"
  | .kls _ => some "list"
  | _ => none
/-- a type's name, for the types that are asked for -/
inductive TyK where
  | int | bool | str | tuple | list
  deriving DecidableEq
def TyK.nm : TyK → String
  | .int => "int"
  | .bool => "bool"
  | .str => "str"
  | .tuple => "tuple"
  | .list => "list"
@[simp] def isTy : TyK → D → Option Bool
  | _, .non => some false
  | .int, .bl _ => some true
  | .int, .int _ => some true
  | .int, .str _ => some false
  | .int, .tup _ => some false
  | .int, .lst _ => some false
  | .int, .kls _ => some false
  | .bool, .bl _ => some true
  | .bool, .int _ => some false
  | .bool, .str _ => some false
  | .bool, .tup _ => some false
  | .bool, .lst _ => some false
  | .bool, .kls _ => some false
  | .str, .bl _ => some false
  | .str, .int _ => some false
  | .str, .str _ => some true
  | .str, .tup _ => some false
  | .str, .lst _ => some false
  | .str, .kls _ => some false
  | .tuple, .bl _ => some false
  | .tuple, .int _ => some false
  | .tuple, .str _ => some false
  | .tuple, .tup _ => some true
  | .tuple, .lst _ => some false
  | .tuple, .kls _ => some false
  | .list, .bl _ => some false
  | .list, .int _ => some false
  | .list, .str _ => some false
  | .list, .tup _ => some false
  | .list, .lst _ => some true
  | .list, .kls _ => some true
  | _, _ => none
@[simp] def anyTy : List TyK → D → Option Bool
  | [], _ => some false
  | t :: ts, d => (isTy t d).bind fun b => if b = true then some true else anyTy ts d
namespace O
@[simp] def isi1 (t : TyK) (d : D) : Option RV := (isTy t d).map fun b => .v (.bl b)
@[simp] def isiT (ts : List TyK) (d : D) : Option RV := (anyTy ts d).map fun b => .v (.bl b)
end O
theorem kit_isTy {K : PySem.W.Frag} {t : TyK} {d : D} {b : Bool} (h : isTy t d = some b) : ∃ T, tyN d = some T ∧ PySem.W.kitOne K (.type T) (.type t.nm) = some b := by
  have fin : ∀ {T U : String} {r : Bool}, kitB T U = some r → some r = some b → PySem.W.kitOne K (.type T) (.type U) = some b := fun h1 h2 => kit_ty (h1.trans h2)
  cases d <;> cases t <;> first | (exact ⟨_, rfl, fin (by decide +kernel) h⟩) | (cases h)
theorem kit_anyTy {K : PySem.W.Frag} {d : D} {T : String} (hT : tyN d = some T) : ∀ {ts : List TyK} {b : Bool}, anyTy ts d = some b → PySem.W.kitAny K (.type T) (ts.map fun t => .type t.nm) = some b
  | [], b, h => by cases h; exact kitAny_nil
  | t :: ts, b, h => by
    unfold anyTy at h
    cases e : isTy t d with
    | none => rw [e] at h; cases h
    | some c =>
      rw [e] at h
      have h : (if c = true then some true else anyTy ts d) = some b := h
      obtain ⟨T', hT', k⟩ := kit_isTy (K := K) e
      rw [hT] at hT'
      cases hT'
      cases c with
      | true =>
        rw [if_pos rfl] at h
        cases h
        exact kitAny_cons k (fun z => nomatch z) fun _ => rfl
      | false =>
        rw [if_neg Bool.false_ne_true] at h
        exact kitAny_cons k (fun _ => kit_anyTy hT h) fun z => nomatch z
section
variable {K : PySem.W.Frag} {F H : Hp} {v : V} {d : D}
theorem rep_ty {T : String} (s : Same F H) (h : RepO K F H v d) (hT : tyN d = some T) : TyX K H v (.type T) := by
  cases d with
  | non => cases hT; rw [h.non]; exact .base .non
  | bl b => cases hT; rw [h.bl]; exact .base (.bl b)
  | int b => cases hT; rw [h.int]; exact .base (.int b)
  | str b => cases hT; rw [h.str]; exact .base (.str b)
  | tup ds =>
    cases hT
    obtain ⟨a, xs, rfl, t, r⟩ := h.tup
    rcases sameT s t with (q | ⟨o, q⟩) | ⟨o, its, n, q, c, _⟩
    · exact .base (.tup q)
    · exact .fTuple q
    · exact .kTuple q c
  | lst ds =>
    cases hT
    obtain ⟨a, xs, rfl, t, r⟩ := h.lst s
    rcases t with q | ⟨o, q⟩
    · exact .base (.lst q)
    · exact .base (.frz q)
  | obj c fs => cases hT
  | kls c =>
    cases hT
    have k := h.data fun _ z => nomatch z
    clear h
    cases k with
    | kls t r =>
      rcases sameL s t with (q | ⟨o, q⟩) | ⟨o, its, n, q, c, _⟩
      · exact .base (.lst q)
      · exact .base (.frz q)
      · exact .kList q c
end
section
variable {X : Cx} {xr : XRel} {wx : WX} {a b c e : Expr} {es : List Expr} {da db dc : Den} {pos p p2 : Pos}
theorem un_keep {K : PySem.W.Frag} {f : D → Option RV} {σ : St} {H : Hp} {Q : VK} {Q' : V → Hp → Prop} (h : rdE K xr wx (C.un f da) σ H Q) (w : ∀ x H1, rO1 K f x H1 Q → Q' x H1) : rdE K xr wx da σ H Q' := by
  obtain ⟨F, sl, cor, post⟩ := one_ok h
  refine ⟨F, sl, cor, ?_⟩
  cases e1 : da sl with
  | fail => rw [e1] at post; exact post.elim
  | exc x s => rw [e1] at post; exact post
  | ok r sl1 =>
    rw [e1] at post
    exact fun F1 H1 v st rv => w _ _ (post F1 H1 v st rv)
theorem isi1_ok {x : Str} {q : Pos} {t : TyK} (hx : x = "isinstance") (hg : Gl X x) (hm : X.mg x = none) (he : PE X e (rdE X.K xr wx da)) (ht : PE X c (tC (.ty t.nm)))
    (hs : starEach [e, c] X.env = (false, eval e X.env) :: starEach [c] X.env) (hs2 : starEach [c] X.env = (false, eval c X.env) :: starEach [] X.env) (hpl : (backTo pos (starEach [c] X.env)).any (·.1) = false) :
    PE X (.Call (.Name x p) [e, c] [] pos) (rdE X.K xr wx (C.un (O.isi1 t) da)) := by
  subst hx
  refine PE.imp (pe_callB call_isi hg hm (by decide +kernel) (pa_cons he (pa_cons ht pa_nil hs2) hs) (by decide) (by decide) hs hpl) fun σ H Q h => ?_
  refine un_keep h fun y H1 ⟨F, d, s, hy, post⟩ => ?_
  unfold O.isi1 at post
  cases e1 : isTy t d with
  | none => rw [e1] at post; exact post.elim
  | some b =>
    rw [e1] at post
    obtain ⟨T, h1, h2⟩ := kit_isTy (K := X.K) e1
    exact ⟨y, _, .type T, _, b, rfl, .ty _, rep_ty s hy h1, h2, PostO.dat (d := .bl b) s post (.bl b)⟩
/-- the names of types as an argument list -/
theorem isiT_ok {x : Str} {q : Pos} {ts : List TyK} {k : Nat} (hx : x = "isinstance") (hg : Gl X x) (hm : X.mg x = none) (he : PE X e (rdE X.K xr wx da)) (ht : PA X es (fun σ H Q => Q (ts.map fun t => V.ty t.nm) H)) (hl : ts.length ≤ 1000)
    (hs : starEach [e, .Tuple es k p2] X.env = (false, eval e X.env) :: starEach [.Tuple es k p2] X.env) (hs2 : starEach [.Tuple es k p2] X.env = (false, eval (.Tuple es k p2) X.env) :: starEach [] X.env) (hpl : (backTo pos (starEach [.Tuple es k p2] X.env)).any (·.1) = false) :
    PE X (.Call (.Name x p) [e, .Tuple es k p2] [] pos) (rdE X.K xr wx (C.un (O.isiT ts) da)) := by
  subst hx
  refine PE.imp (pe_callB call_isiT hg hm (by decide +kernel) (pa_cons he (pa_cons (pe_tup ht) pa_nil hs2) hs) (by decide) (by decide) hs hpl) fun σ H Q h => ?_
  refine un_keep h fun y H1 ⟨F, d, s, hy, post⟩ => ⟨by rw [List.length_map]; exact small1k hl, fun tp hn => ?_⟩
  unfold O.isiT at post
  cases e1 : anyTy ts d with
  | none => rw [e1] at post; exact post.elim
  | some b =>
    rw [e1] at post
    have up : Same H1 (upd H1 tp (.tup (ts.map fun t => V.ty t.nm))) := same_up hn
    cases hT : tyN d with
    | none =>
      exfalso
      cases d with
      | obj c fs => cases hy.data fun _ z => nomatch z
      | _ => cases hT
    | some T =>
      have pr : ∀ ts : List TyK, Paired ClsV (ts.map fun t => V.ty t.nm) (ts.map fun t => Value.type t.nm) := fun ts => by
        induction ts with
        | nil => exact .nil
        | cons t ts ih => exact .cons (.ty _) ih
      have rt := rep_ty s hy hT
      refine ⟨y, tp, _, .type T, _, b, rfl, upd_same, pr ts, rep_ty (F := F) (d := d) (s.trans up) ?_ hT, kit_anyTy hT e1, ?_⟩
      · rcases hy with hy | ⟨a, c, rfl, rfl, ca⟩
        · exact .inl hy
        · exact .inr ⟨a, c, rfl, rfl, ca.mono (Same.refl F) fun o ho => up a o ho⟩
      · have post : PostO X.K F H1 (some (.v (.bl b))) Q := post
        exact post F _ _ (grow_open s hn) (.bl b)
end
end RF
set_option maxRecDepth 100000
namespace RF
open PySem PySem.Spec L2
/-! ### list(range(..)) -/
namespace C
def listI (it : IDen) : Den := fun sl => match it sl with
  | .ok ds sl1 => if ds.length ≤ 16777216 then .ok (.n (.lst ds)) sl1 else .fail
  | .exc x s => .exc x s
  | .fail => .fail
end C
section
variable {X : Cx} {xr : XRel} {wx : WX} {a b c e : Expr} {es : List Expr} {da : ADen} {pos p p2 : Pos}
theorem prgA_1 {ta : TA} (hg : Gl X "range") (hm : X.mg "range" = none) (ha : PA X [a] ta) (hs : starEach [a] X.env = [(false, eval a X.env)]) : PRg X (.Call (.Name "range" p) [a] [] pos) (fun σ H Q => ta σ H fun vs H1 => ∃ n : Int, vs = [.int n] ∧ Q 0 n H1) := by
  intro pins s σ H Q I h
  refine PyProof.Rows.Call_ (ld_blt I hg hm PyProof.Rows.boot_range (PyProof.Rows.callWith_type1 (thn (ha.run pos pins s σ H _ I h) fun us s1 ⟨vs, H1, I1, r1, q1⟩ => ?_) hs rfl))
  obtain ⟨n, e, q⟩ := q1
  subst e
  cases r1 with
  | cons r rr =>
    cases rr
    obtain ⟨t, rfl⟩ := r
    exact call_range_1 ⟨_, 0, n, _, _, _, H1, rfl, IsRange.new _ _ _ _ _ _ _, I1.kept fun b u e => Heap.get?_push_of_some _ e, q⟩
theorem prgA_2 {ta : TA} (hg : Gl X "range") (hm : X.mg "range" = none) (ha : PA X [a, b] ta) (hs : starEach [a, b] X.env = [(false, eval a X.env), (false, eval b X.env)]) (hs2 : starEach [b] X.env = [(false, eval b X.env)]) :
    PRg X (.Call (.Name "range" p) [a, b] [] pos) (fun σ H Q => ta σ H fun vs H1 => ∃ i j : Int, vs = [.int i, .int j] ∧ Q i j H1) := by
  intro pins s σ H Q I h
  refine PyProof.Rows.Call_ (ld_blt I hg hm PyProof.Rows.boot_range (PyProof.Rows.callWith_type1 (thn (ha.run pos pins s σ H _ I h) fun us s1 ⟨vs, H1, I1, r1, q1⟩ => ?_) (by rw [hs, hs2]) (by rw [hs2]; rfl)))
  obtain ⟨i, j, e, q⟩ := q1
  subst e
  cases r1 with
  | cons r rr =>
    cases rr with
    | cons r' rr =>
      cases rr
      obtain ⟨t, rfl⟩ := r
      obtain ⟨t', rfl⟩ := r'
      exact call_range_2 ⟨_, i, j, _, _, _, H1, rfl, IsRange.new _ _ _ _ _ _ _, I1.kept fun b u e => Heap.get?_push_of_some _ e, q⟩
theorem rg_rep {K : PySem.W.Frag} {F : Hp} (i j : Int) : RepL K F (rgV i j) (rangeD i (j - i).toNat) := by
  unfold rgV rangeD
  have gen : ∀ l : List Nat, RepL K F (l.map fun k => V.int (i + (k : Nat))) (l.map fun (k : Nat) => D.int (i + (k : Int))) := fun l => by
    induction l with
    | nil => exact .nil
    | cons k l ih => exact .cons (.int _) ih
  exact gen _
theorem listI_step {f : List D → Option (List D)} {K : PySem.W.Frag} {σ : St} {H : Hp} {Q : VK} (o : opds da) (h : rdE K xr wx (C.listI (C.iterA f da)) σ H Q) :
    rdA K xr wx da σ H fun vs H1 => ∃ F ds es, Same F H1 ∧ RepL K F vs ds ∧ f ds = some es ∧ es.length ≤ 16777216 ∧ PostO K F H1 (some (.n (.lst es))) Q := by
  obtain ⟨F, sl, cor, post⟩ := h
  refine ⟨F, sl, cor, ?_⟩
  unfold C.listI C.iterA at post
  cases e1 : da sl with
  | fail => rw [e1] at post; exact post.elim
  | exc x s => rw [e1] at post; exact post
  | ok rs sl1 =>
    rw [e1] at post
    simp only at post
    intro F1 H1 vs st1 rv1
    rw [← o _ _ _ e1] at rv1 post
    cases e2 : frzs (rs.map opd) sl1 with
    | none => rw [e2] at post; exact post.elim
    | some p =>
      obtain ⟨ds, sl2⟩ := p
      rw [e2] at post
      simp only at post
      obtain ⟨F2, st2, r2, s2⟩ := frzs_ok st1 rv1 e2
      cases e3 : f ds with
      | none => rw [e3] at post; exact post.elim
      | some es =>
        rw [e3] at post
        simp only at post
        split at post
        · rename_i hz
          exact ⟨F2, ds, es, st2.cor.ff, r2, e3, hz, fin_O (r := some (.n (.lst es))) st2 post⟩
        · exact post.elim
theorem listRg1_ok {x y : Str} (hx : x = "list") (hy : y = "range") (o : opds da) (hc : X.calm = true) (hg : Gl X x) (hm : X.mg x = none) (hg2 : Gl X y) (hm2 : X.mg y = none) (ha : PA X [e] (rdA X.K xr wx da)) (hs : starEach [e] X.env = [(false, eval e X.env)])
    (na : starEach [.Call (.Name y p2) [e] [] pos] X.env = (false, eval (.Call (.Name y p2) [e] [] pos) X.env) :: starEach [] X.env) {pos2 : Pos} :
    PE X (.Call (.Name x p) [.Call (.Name y p2) [e] [] pos] [] pos2) (rdE X.K xr wx (C.listI (C.iterA W.range1 da))) := by
  subst hx hy
  refine PE.imp (pe_listRg hc hg hm (prgA_1 hg2 hm2 ha hs) na) fun σ H Q h => rdA_imp (listI_step o h) fun vs H1 ⟨F, ds, es, s, r, hf, hz, post⟩ => ?_
  unfold W.range1 at hf
  split at hf
  · rename_i j
    split at hf
    · rename_i hj
      cases hf
      rw [RepL.ints (ns := [j]) r]
      obtain ⟨h1, h2⟩ := okR_of hj
      have hl : (rangeD 0 j.toNat).length = j.toNat := by simp [rangeD]
      refine ⟨j, rfl, ⟨by omega, by omega, h1, h2, by omega⟩, fun p hp => post.lst s ?_ hp⟩
      have := rg_rep (K := X.K) (F := F) 0 j
      rwa [Int.sub_zero] at this
    · cases hf
  · cases hf
theorem listRg2_ok {x y : Str} {e2 : Expr} (hx : x = "list") (hy : y = "range") (o : opds da) (hc : X.calm = true) (hg : Gl X x) (hm : X.mg x = none) (hg2 : Gl X y) (hm2 : X.mg y = none) (ha : PA X [e, e2] (rdA X.K xr wx da)) (hs : starEach [e, e2] X.env = [(false, eval e X.env), (false, eval e2 X.env)]) (hs2 : starEach [e2] X.env = [(false, eval e2 X.env)])
    (na : starEach [.Call (.Name y p2) [e, e2] [] pos] X.env = (false, eval (.Call (.Name y p2) [e, e2] [] pos) X.env) :: starEach [] X.env) {pos2 : Pos} :
    PE X (.Call (.Name x p) [.Call (.Name y p2) [e, e2] [] pos] [] pos2) (rdE X.K xr wx (C.listI (C.iterA W.range2 da))) := by
  subst hx hy
  refine PE.imp (pe_listRg hc hg hm (prgA_2 hg2 hm2 ha hs hs2) na) fun σ H Q h => rdA_imp (listI_step o h) fun vs H1 ⟨F, ds, es, s, r, hf, hz, post⟩ => ?_
  unfold W.range2 at hf
  split at hf
  · rename_i i j
    split at hf
    · rename_i hj
      cases hf
      rw [RepL.ints (ns := [i, j]) r]
      rw [Bool.and_eq_true] at hj
      obtain ⟨h1, h2⟩ := okR_of hj.1
      obtain ⟨h3, h4⟩ := okR_of hj.2
      have hl : (rangeD i (j - i).toNat).length = (j - i).toNat := by simp [rangeD]
      exact ⟨i, j, rfl, ⟨h1, h2, h3, h4, by omega⟩, fun p hp => post.lst s (rg_rep i j) hp⟩
    · cases hf
  · cases hf
end

/-! ### sorted(set(..)) of a list of ints -/
section
variable {P : Program} {w : World} {A : Around} {E : Value → Shared → Prop} {s : Shared}
set_option maxHeartbeats 3200000 in
theorem set_of_ints {l : Addr} {items : Array Value} (ns : List Int) {Q : Value → Shared → Prop} (hh : A.handled = none) (hl : s.heap.IsList l items) (hit : PyProof.Rows.IntsAre items.toList ns) (hb : ns.length + 1 < scanBound)
    (h : ∀ (h' : Heap) (tk c : Nat), SetR w h' s.heap.objs.size (fun j => decide (j ∈ ns)) c → c ≤ ns.length → (∀ b o, s.heap.get? b = some o → h'.get? b = some o) → Q (.ref s.heap.objs.size) { s with heap := h', toks := tk }) :
    wpAny (model P w) A (call (.type "set") [.ref l]) Q E s := by
  have hsz : items.size = ns.length := by
    have q := PyProof.Rows.IntsAre.length hit
    rwa [Array.length_toList] at q
  obtain ⟨c, tl, hmro⟩ := F.called_set.mro
  have f1 := F.called_set.made
  have f2 := F.called_set.sub
  refine wpAny_call (codeAny_of_tree ?_)
  show wpAny _ _ (callAny (.type "set") _) _ _ _
  refine wpAny_pure ⟨Code.quiet_builtin _ (by decide +kernel), codeAny_builtin F.entry_type_call ?_⟩
  rw [Around.under_plain (weight_type_call_type "set" [.ref l] []) rfl]
  have f3 := F.called_set.notType
  have f4 := F.called_set.canCreate
  have f5 := F.typeCall_set_1 (.ref l)
  repeat (any_goals (first | assumption | wp_step))
  refine codeAny_mono (code_set_led1 (.ref l) (E := E) (Q₁ := fun obj s₁ => obj = .ref s.heap.objs.size ∧ s₁ = { s with heap := s.heap.push { cls := .type "set", dict := none, data := .set #[] 0 (.fresh 0 0 (!w.params.followText "set-order")) } }) ⟨rfl, rfl⟩) fun r s₁ hr => ?_
  cases r with
  | error e => exact hr
  | ok fl =>
    cases fl with
    | ret obj =>
      obtain ⟨rfl, rfl⟩ := hr
      have g1 : (s.heap.push { cls := .type "set", dict := none, data := .set #[] 0 (.fresh 0 0 (!w.params.followText "set-order")) }).get? s.heap.objs.size = some { cls := .type "set", dict := none, data := .set #[] 0 (.fresh 0 0 (!w.params.followText "set-order")) } := Heap.get?_push_size _ rfl
      have g2 : Shared.TypeIs { s with heap := s.heap.push { cls := .type "set", dict := none, data := .set #[] 0 (.fresh 0 0 (!w.params.followText "set-order")) } } (.ref s.heap.objs.size) "set" := ⟨_, g1, rfl⟩
      have f6 := F.called_set.init.lookup
      have f7 := F.called_set.init.bind (.ref s.heap.objs.size)
      repeat (any_goals (first | assumption | wp_step))
      refine codeAny_mono (codeAny_call_builtin (R := wants (fun r s₂ => r = .none ∧ ∃ h' tk c, s₂ = { s with heap := h', toks := tk } ∧ SetR w h' s.heap.objs.size (fun j => decide (j ∈ ns)) c ∧ c ≤ ns.length ∧
          (∀ b o, s.heap.get? b = some o → h'.get? b = some o)) E) F.called_set.init.plain F.entry_set_init (check_set_init_1 g2 ?_)) fun r₂ s₂ hr₂ => ?_
      · obtain ⟨⟨k1, k2, k3, k4⟩, hol, hcl, nl, hdl⟩ := hl
        simp only at hcl hdl
        subst hcl hdl
        have g3 : (s.heap.push { cls := .type "set", dict := none, data := .set #[] 0 (.fresh 0 0 (!w.params.followText "set-order")) }).get? l = some { cls := .type "list", dict := k2, data := .seq items nl, slots := k4 } := Heap.get?_push_of_some _ hol
        have f8 := F.sub_list_set
        have f9 := F.sub_list_frozenset
        have g4 : (Value.type "list" == Value.type "dict") = false := by decide
        have g5 : (s.heap.push { cls := .type "set", dict := none, data := .set #[] 0 (.fresh 0 0 (!w.params.followText "set-order")) }).IsList l items := ⟨_, g3, rfl, nl, rfl⟩
        unfold Builtin.«set.__init__» noKeywords Builtin.Frozenset.updateFrom
        generalize hPI : pyIter = PI
        wp_walk
        subst hPI
        refine wpAny_pyIter_list g5 ?_
        refine wpAny_bind (wpAny_runValue ?_)
        have b1 : l < s.heap.objs.size := Heap.lt_size hol
        have b2 : A.in1.in1.in1.handled = none := by simp [hh]
        have b3 : (s.heap.push { cls := .type "set", dict := none, data := .set #[] 0 (.fresh 0 0 (!w.params.followText "set-order")) }).objs.size = s.heap.objs.size + 1 := Heap.size_push ..
        have b4 : l ≠ (s.heap.push { cls := .type "set", dict := none, data := .set #[] 0 (.fresh 0 0 (!w.params.followText "set-order")) }).objs.size := by rw [b3]; exact Nat.ne_of_lt (Nat.lt_succ_of_lt b1)
        have b5 : s.heap.objs.size ∉ [(s.heap.push { cls := .type "set", dict := none, data := .set #[] 0 (.fresh 0 0 (!w.params.followText "set-order")) }).objs.size, l] := by
          rw [b3]
          simp only [List.mem_cons, List.not_mem_nil, or_false, not_or]
          exact ⟨Nat.ne_of_lt (Nat.lt_succ_self _), Nat.ne_of_gt b1⟩
        have b6 : ∀ (i : Nat) (v : Value), items[i]? = some v → ∃ k t, ns[i]? = some k ∧ v = .int k t := fun i v hv => by
          have hi : i < ns.length := by rw [← hsz]; exact (Array.getElem?_eq_some_iff.mp hv).1
          obtain ⟨t, e⟩ := PyProof.Rows.IntsAre.int_at hit i v (by rw [Array.getElem?_toList]; exact hv)
          refine ⟨ns[i], t, List.getElem?_eq_getElem hi, ?_⟩
          rw [e, List.getD_eq_getElem?_getD, List.getElem?_eq_getElem hi] <;> rfl
        refine set_update_ints ((Walks.list b2 _ l b4 items).toS) s.heap.objs.size b5 ns hsz hb b6 (items.size - 0) 0 _ (by omega) (Nat.zero_le _)
          ⟨⟨_, Heap.get?_push_size _ rfl, rfl, rfl⟩, (g5.push _)⟩ ?hS0 ?hR
        case hS0 => exact ⟨0, Nat.le_refl 0, setR_new_at (Heap.get?_push_of_some _ g1)⟩
        case hR =>
          intro s' c' hm hc' hS'
          obtain ⟨h', g2', d', tk', os'⟩ := s'
          obtain rfl : g2' = s.gens := hm.gens
          obtain rfl : d' = s.drawn := hm.drawn
          obtain rfl : os' = s.os := hm.os
          show wpAny _ _ _ _ _ _
          refine wpAny_pure ?_
          show wpAny _ _ (ret Value.none) _ _ _
          rw [hsz] at hc'
          refine wpAny_pure ⟨rfl, h', tk', c', rfl, hS', hc', fun b o e => ?_⟩
          have z0 : b < s.heap.objs.size := Heap.lt_size e
          refine hm.heap b o ?_ (Heap.get?_push_of_some _ (Heap.get?_push_of_some _ e))
          simp only [List.mem_cons, List.not_mem_nil, or_false, not_or]
          exact ⟨Nat.ne_of_lt z0, by rw [b3]; exact Nat.ne_of_lt (Nat.lt_succ_of_lt z0)⟩
      · cases r₂ with
        | error e => exact hr₂
        | ok fl₂ =>
          cases fl₂ with
          | ret r =>
            obtain ⟨rfl, h', tk, c', rfl, hS', hc', hk'⟩ := hr₂
            repeat (any_goals (first | assumption | wp_step))
            exact h _ _ _ hS' hc' hk'
          | _ => exact hr₂.elim
    | _ => exact hr.elim
end
namespace O
/-- sorted(set(ints)) -/
def dedup : List Int → List Int
  | [] => []
  | i :: is => if i ∈ dedup is then dedup is else i :: dedup is
@[simp] def sset (ds : D) : Option RV := match ds with
  | .lst ds => (intsOf ds).bind fun ns => if ns.length < 64 then some (.n (.lst ((sortI (dedup ns)).map D.int))) else none
  | _ => none
end O
theorem mem_dedup {i : Int} : ∀ {ns : List Int}, i ∈ O.dedup ns ↔ i ∈ ns
  | [] => by simp [O.dedup]
  | j :: js => by
    have ih := mem_dedup (i := i) (ns := js)
    unfold O.dedup
    split
    · rename_i h
      rw [ih, List.mem_cons]
      exact ⟨.inr, fun z => z.elim (fun e => by subst e; exact ih.mp h) id⟩
    · rw [List.mem_cons, List.mem_cons, ih]
theorem nodup_dedup : ∀ ns : List Int, (O.dedup ns).Nodup
  | [] => List.nodup_nil
  | j :: js => by
    unfold O.dedup
    split
    · exact nodup_dedup js
    · rename_i h
      exact List.nodup_cons.mpr ⟨h, nodup_dedup js⟩
/-- sorted, without twins: one list for one set -/
theorem strict_one : ∀ {a b : List Int}, a.Pairwise (· < ·) → b.Pairwise (· < ·) → (∀ k, k ∈ a ↔ k ∈ b) → a = b
  | [], [], _, _, _ => rfl
  | [], y :: b, _, _, h => by have := (h y).mpr (by simp); simp at this
  | x :: a, [], _, _, h => by have := (h x).mp (by simp); simp at this
  | x :: a, y :: b, ha, hb, h => by
    have ha' := List.pairwise_cons.mp ha
    have hb' := List.pairwise_cons.mp hb
    have e : x = y := by
      rcases List.mem_cons.mp ((h x).mp (by simp)) with q | q
      · exact q
      · rcases List.mem_cons.mp ((h y).mpr (by simp)) with q2 | q2
        · exact q2.symm
        · have := ha'.1 y q2
          have := hb'.1 x q
          omega
    subst e
    congr 1
    refine strict_one ha'.2 hb'.2 fun k => ⟨fun hk => ?_, fun hk => ?_⟩
    · rcases List.mem_cons.mp ((h k).mp (by simp [hk])) with q | q
      · have := ha'.1 k hk; omega
      · exact q
    · rcases List.mem_cons.mp ((h k).mpr (by simp [hk])) with q | q
      · have := hb'.1 k hk; omega
      · exact q
section
variable {X : Cx} {xr : XRel} {wx : WX} {e : Expr} {da : Den} {pos p p2 : Pos}
theorem sset_pe {te : TE} {x y : Str} (hx : x = "sorted") (hy : y = "set") (hc : X.calm = true) (hg : Gl X x) (hm : X.mg x = none) (hg2 : Gl X y) (hm2 : X.mg y = none) (he : PE X e te) {pos2 : Pos}
    (na : starEach [e] X.env = (false, eval e X.env) :: starEach [] X.env) (na2 : starEach [.Call (.Name y p2) [e] [] pos] X.env = (false, eval (.Call (.Name y p2) [e] [] pos) X.env) :: starEach [] X.env) :
    PE X (.Call (.Name x p) [.Call (.Name y p2) [e] [] pos] [] pos2) (fun σ H Q => te σ H fun v H1 => ∃ (l : Addr) (ns : List Int), v = .ref l ∧ SqL X.K H1 l (ns.map V.int) ∧ ns.length < 64 ∧ ∀ H2 q, Grow H1 H1 H1 H2 → H2 q = none → Q (.ref q) (upd H2 q (.lst ((sortI (O.dedup ns)).map V.int)))) := by
  subst hx hy
  refine ⟨fun pins s σ H Q I h => ?_⟩
  refine PyProof.Rows.Call_ (ld_blt I hg hm PyProof.Rows.boot_sorted ?_)
  refine PyProof.Rows.callWith_builtin1 (PyProof.Rows.args_cons ?_ na2) na2 rfl
  refine PyProof.Rows.Call_ (ld_blt I hg2 hm2 PyProof.Rows.boot_set ?_)
  refine PyProof.Rows.callWith_type1 (PyProof.Rows.args_cons (thn (he.run pins s σ H _ I h) fun v s1 ⟨x, H1, I1, r1, q1⟩ => PyProof.Rows.args_nil ?_) na) na rfl
  obtain ⟨l, ns, rfl, hq, h64, q1⟩ := q1
  cases r1
  obtain ⟨its, r, pl, hz⟩ := I1.list hq
  refine set_of_ints ns (I1.ok.hd hc) pl.isList (by simpa using ints_of_vals r) (by unfold scanBound; omega) fun h' tk c R hcn hk => ?_
  refine PyProof.Rows.args_nil ?_
  have hn : H1 s1.heap.objs.size = none := I1.hok.fresh (Nat.le_refl _)
  obtain ⟨o, ho⟩ : ∃ o, h'.get? s1.heap.objs.size = some o := let ⟨o, _, _, _, ho, _⟩ := R; ⟨o, ho⟩
  have I2 : Inv X pins σ (upd H1 s1.heap.objs.size (SetO X.w s1.heap.objs.size (fun j => decide (j ∈ ns)) c)) { s1 with heap := h', toks := tk } := I1.laid (fun b o e => hk b o e) (Nat.le_refl _) (setO_new R)
  refine cr_sortedSet hc pins _ σ _ [.ref s1.heap.objs.size] [.ref s1.heap.objs.size] Q I2 (.cons rfl .nil) ⟨s1.heap.objs.size, _, c, rfl, upd_same, by omega, fun ns' p hs hm hl hp => ?_⟩
  have e : ns' = sortI (O.dedup ns) := by
    refine strict_one hs ?_ fun k => ?_
    · have h1 := sortI_sorted (O.dedup ns)
      have h2 : (sortI (O.dedup ns)).Nodup := (sortI_perm (O.dedup ns)).nodup_iff.mpr (nodup_dedup ns)
      exact (h1.and h2).imp fun h => by have := h.1; have := h.2; omega
    · rw [hm k, decide_eq_true_eq, (sortI_perm (O.dedup ns)).mem_iff, mem_dedup]
  subst e
  exact q1 _ p ⟨Same.refl _, same_up hn, same_up hn, fun b z => .inl z⟩ hp
theorem sset_ok' {x y : Str} (hx : x = "sorted") (hy : y = "set") (hc : X.calm = true) (hg : Gl X x) (hm : X.mg x = none) (hg2 : Gl X y) (hm2 : X.mg y = none) (he : PE X e (rdE X.K xr wx da)) {pos2 : Pos}
    (na : starEach [e] X.env = (false, eval e X.env) :: starEach [] X.env) (na2 : starEach [.Call (.Name y p2) [e] [] pos] X.env = (false, eval (.Call (.Name y p2) [e] [] pos) X.env) :: starEach [] X.env) :
    PE X (.Call (.Name x p) [.Call (.Name y p2) [e] [] pos] [] pos2) (rdE X.K xr wx (C.un O.sset da)) :=
  PE.imp (sset_pe hx hy hc hg hm hg2 hm2 he na na2) fun σ H Q h => un_keep h fun v H1 ⟨F, d, s, hv, post⟩ => by
    cases d with
    | lst ds =>
      obtain ⟨a, xs, rfl, t, r⟩ := hv.lst s
      unfold O.sset at post
      simp only at post
      cases e1 : intsOf ds with
      | none => rw [e1] at post; exact post.elim
      | some ns =>
        rw [e1] at post
        simp only [Option.bind_some] at post
        split at post
        · rename_i hz
          have ed := ints_of e1
          subst ed
          have ex := RepL.ints r
          subst ex
          refine ⟨a, ns, rfl, .inl t, hz, fun H2 q g hq => ?_⟩
          have post : PostO X.K F H1 (some (.n (.lst ((sortI (O.dedup ns)).map D.int)))) Q := post
          have s2 : Same F H2 := s.trans g.hh
          have g2 : Grow F H1 F (upd H2 q (.lst ((sortI (O.dedup ns)).map V.int))) := ⟨Same.refl _, g.hh.trans (same_up hq), s2.trans (same_up hq), fun b z => .inl z⟩
          exact post F _ q g2 (g.hh.free hq) (s2.free hq) ⟨_, upd_same, RepL.of_ints _⟩
        · exact post.elim
    | _ => exact post.elim
end
end RF
set_option maxRecDepth 100000
namespace RF
open PySem PySem.Spec L2
/-! ### THE COMPILER: from the text to denotations, each with its proof -/
abbrev XR0 : XRel := fun _ _ _ _ => False
abbrev WX0 : WX := fun _ _ _ _ => False
/-- a def that may be called: so many parameters, what it computes -/
structure FE where
  np : Nat
  den : List SV → CRes
  /-- which arguments may be handed over open (lacking: none) -/
  op : List Bool := []
/-- what stands still in a def -/
structure SC where
  N : List Str
  sc : Scope
  fn : Str → Bool
  G : List (Str × FE)
  cst : List (Str × D)
  blt : List Str
/-- a def keeps its promise and may be called by its name -/
def RFn (P : Program) (w : World) (K : PySem.W.Frag) (mg : Str → Option Value) (base : Heap) (k : Nat) (x : Str) (fe : FE) : Prop :=
  ∃ f fd ps, FnOk P w K mg base CX0 k f fd ps (spOf K fe.np fe.den) ∧ mg x = some (.ref f) ∧ PySem.W.keepIn K (.ref f) = true ∧ Binds K fd ps []
theorem RFn.mono {P : Program} {w : World} {K : PySem.W.Frag} {mg : Str → Option Value} {base : Heap} {j k : Nat} {x : Str} {fe : FE} (h : RFn P w K mg base j x fe) (l : j ≤ k) : RFn P w K mg base k x fe :=
  let ⟨f, fd, ps, h1, h2⟩ := h
  ⟨f, fd, ps, h1.mono l, h2⟩
/-- a module's constant -/
def RCst (K : PySem.W.Frag) (mg : Str → Option Value) (x : Str) (d : D) : Prop := ∃ v u, mg x = some u ∧ RelV v u ∧ ∀ F, Rep K F v d
structure Ctx (k : Nat) (S : SC) (X : Cx) : Prop where
  N : X.N = S.N
  nd : X.N.Nodup
  sc : X.env.scope = S.sc
  fn : X.fn = S.fn
  calm : X.calm = true
  fns : ∀ x fe, (x, fe) ∈ S.G → RFn X.prog X.w X.K X.mg X.base k x fe
  cst : ∀ x d, (x, d) ∈ S.cst → RCst X.K X.mg x d
  blt : ∀ x, x ∈ S.blt → X.mg x = none
  room : Room k X.A
  xe : X.xe = fun _ _ => False
def SC.blk (S : SC) (scope : Scope) : SC := { S with sc := relS scope S.sc, fn := fun x => scope.names.lookup x == some .cell }
theorem Ctx.blk {k : Nat} {S : SC} {X : Cx} (h : Ctx k S X) (scope : Scope) (s : Shared) (H : Hp) (C : Addr) (cl : List (Str × Addr)) (fp : List Addr) : Ctx k (S.blk scope) (X.blk s H scope (compEnvC scope cl C X.env) fp) :=
  ⟨h.N, h.nd, by show relS scope X.env.scope = relS scope S.sc; rw [h.sc], rfl, h.calm, h.fns, h.cst, h.blt, h.room, rfl⟩
theorem Ctx.un {k : Nat} {S : SC} {X : Cx} (h : Ctx k S X) : X.A.units + 65 < cLine := by have := h.room.un; omega
/-! ### names -/
def ixOf : List Str → Str → Option Nat
  | [], _ => none
  | y :: ys, x => if y = x then some 0 else (ixOf ys x).map (· + 1)
theorem ixOf_ok : ∀ {N : List Str} {x : Str} {i : Nat}, ixOf N x = some i → N[i]? = some x
  | [], _, _, h => by cases h
  | y :: ys, x, i, h => by
    unfold ixOf at h
    split at h
    · rename_i e
      cases h
      rw [e]; rfl
    · cases q : ixOf ys x with
      | none => rw [q] at h; cases h
      | some j =>
        rw [q] at h
        cases h
        simpa using ixOf_ok q
def kindB (sc : Scope) (x : Str) (k : NameKind) : Bool := decide (sc.names.lookup x = some k)
def plainName (x : Str) : Bool := (x == ("__debug__" : Str)) || (x == ("__classdict__" : Str)) || decide (x = "__name__")
theorem plain_1 {x : Str} (h : plainName x = false) : (x == ("__debug__" : Str)) = false := by
  unfold plainName at h
  rw [Bool.or_eq_false_iff, Bool.or_eq_false_iff] at h
  exact h.1.1
theorem plain_2 {x : Str} (h : plainName x = false) : (x == ("__classdict__" : Str)) = false := by
  unfold plainName at h
  rw [Bool.or_eq_false_iff, Bool.or_eq_false_iff] at h
  exact h.1.2
theorem plain_3 {x : Str} (h : plainName x = false) : x ≠ "__name__" := by
  unfold plainName at h
  rw [Bool.or_eq_false_iff, Bool.or_eq_false_iff] at h
  simpa using h.2
def visB (sc : Scope) (x : Str) : Bool := kindB sc x .local || kindB sc x .cell || kindB sc x .free
theorem vis_of {sc : Scope} {x : Str} (h : visB sc x = true) : Vis sc x := by
  unfold visB kindB at h
  simp only [Bool.or_eq_true, decide_eq_true_eq] at h
  rcases h with (h | h) | h
  · exact .inl h
  · exact .inr (.inl h)
  · exact .inr (.inr h)
def locB (sc : Scope) (x : Str) : Bool := kindB sc x .local || kindB sc x .cell
theorem loc_of {sc : Scope} {x : Str} (h : locB sc x = true) : Loc sc x := by
  unfold locB kindB at h
  simp only [Bool.or_eq_true, decide_eq_true_eq] at h
  exact h
/-- a name that may be stored to -/
def putB (S : SC) (x : Str) : Bool := locB S.sc x && (S.fn x || kindB S.sc x .local)
theorem put_of {k : Nat} {S : SC} {X : Cx} {x : Str} (c : Ctx k S X) (h : putB S x = true) : Loc X.env.scope x ∧ (X.fn x = true ∨ X.env.scope.names.lookup x = some .local) := by
  unfold putB at h
  rw [Bool.and_eq_true, Bool.or_eq_true] at h
  rw [c.sc, c.fn]
  refine ⟨loc_of h.1, h.2.imp id fun q => ?_⟩
  unfold kindB at q
  simpa using q
theorem gl_of {k : Nat} {S : SC} {X : Cx} {x : Str} (c : Ctx k S X) (h : kindB S.sc x .globalImplicit = true) : Gl X x := by
  unfold kindB at h
  rw [decide_eq_true_eq] at h
  show X.env.scope.names.lookup x = _
  rw [c.sc]
  exact h
def findG {α : Type} : List (Str × α) → Str → Option α
  | [], _ => none
  | (y, a) :: ys, x => if y = x then some a else findG ys x
theorem findG_ok {α : Type} : ∀ {l : List (Str × α)} {x : Str} {a : α}, findG l x = some a → (x, a) ∈ l
  | [], _, _, h => by cases h
  | (y, b) :: ys, x, a, h => by
    unfold findG at h
    split at h
    · rename_i e
      cases h
      subst e
      exact List.mem_cons_self
    · exact List.mem_cons_of_mem _ (findG_ok h)
def memB (l : List Str) (x : Str) : Bool := l.any fun y => decide (y = x)
theorem mem_of {l : List Str} {x : Str} (h : memB l x = true) : x ∈ l := by
  unfold memB at h
  obtain ⟨y, h1, h2⟩ := List.any_eq_true.mp h
  rw [decide_eq_true_eq] at h2
  exact h2 ▸ h1
/-! ### forms -/
def notStar : Expr → Bool
  | .Starred .. => false
  | _ => true
theorem star_of {e : Expr} (h : notStar e = true) (es : List Expr) (env : Env) : starEach (e :: es) env = (false, eval e env) :: starEach es env := by
  cases e <;> first | rfl | cases h
theorem assign_of {e : Expr} (h : notStar e = true) (es : List Expr) (env : Env) : assignEach (e :: es) env = (false, assign e env) :: assignEach es env := by
  cases e <;> first | rfl | cases h
theorem stars_of {env : Env} {pos : Pos} : ∀ {es : List Expr}, es.all notStar = true → (backTo pos (starEach es env)).any (·.1) = false
  | [], _ => rfl
  | e :: es, h => by
    rw [List.all_cons, Bool.and_eq_true] at h
    rw [star_of h.1]
    show (false || (backTo pos (starEach es env)).any (·.1)) = false
    rw [stars_of h.2]
    rfl
theorem stars_all {env : Env} {pos : Pos} : ∀ {es : List Expr}, es.all notStar = true → (backTo pos (starEach es env)).all (fun x => !x.1) = true
  | [], _ => rfl
  | e :: es, h => by
    rw [List.all_cons, Bool.and_eq_true] at h
    rw [star_of h.1]
    show (true && (backTo pos (starEach es env)).all (fun x => !x.1)) = true
    rw [stars_all h.2]
    rfl
theorem assigns_len {env : Env} : ∀ {es : List Expr}, es.all notStar = true → (assignEach es env).length = es.length
  | [], _ => rfl
  | e :: es, h => by
    rw [List.all_cons, Bool.and_eq_true] at h
    rw [assign_of h.1, List.length_cons, List.length_cons, assigns_len h.2]
theorem assigns_star {env : Env} : ∀ {es : List Expr}, es.all notStar = true → (assignEach es env).findIdx? (·.1) = none
  | [], _ => rfl
  | e :: es, h => by
    rw [List.all_cons, Bool.and_eq_true] at h
    rw [assign_of h.1, List.findIdx?_cons, assigns_star h.2]
    rfl
def notLc : Expr → Bool
  | .ListComp .. => false
  | .SetComp .. => false
  | .DictComp .. => false
  | _ => true
theorem swaps_of {e : Expr} (h : notLc e = true) (t : Option Expr) (l : Nat) (env : Env) : swapsWith e t l env = pure false := by
  cases e <;> first | rfl | cases h
theorem swaps_tup {e : Expr} {ts : List Expr} {n : Nat} {p : Pos} (l : Nat) (env : Env) : swapsWithSole [.Tuple ts n p] e l env = pure false := by
  cases e <;> rfl
theorem swaps_sub {e o i : Expr} {p : Pos} (l : Nat) (env : Env) : swapsWithSole [.Subscript o i p] e l env = pure false := by
  cases e <;> rfl
def notSet : Expr → Bool
  | .Set .. => false
  | _ => true
theorem folded_of {e : Expr} (h : notSet e = true) (env : Env) (x : Value) : foldedSetIterable e env x = pure x := by
  cases e <;> first | rfl | cases h
theorem marks_of {e : Expr} (h : notSet e = true) (op : CmpOp) : behindInMarks op e = false := by
  cases e <;> first | rfl | cases h
def notSlice : Expr → Bool
  | .Slice .. => false
  | _ => true
theorem plain_of {e : Expr} (h : notSlice e = true) : PlainIx e := fun o i => by
  cases e <;> first | rfl | cases h
theorem subA_of {o i : Expr} (h : notSlice i = true) (pos : Pos) (env : Env) (v : Value) : assign (.Subscript o i pos) env v = (do
      let ov ← holding [v] (eval o env)
      let iv ← holding [v, ov] (eval i env)
      standAt pos
      holding [v, ov, iv] (setItem ov iv v)
      release [v, ov, iv] []) := by
  cases i <;> first | rfl | cases h
def truE : Expr → Bool
  | .BoolOp .. => false
  | .UnaryOp .. => false
  | .IfExp .. => false
  | .Compare .. => false
  | _ => true
theorem tru_of {e : Expr} (h : truE e = true) (env : Env) (whole : Sem Value) : isTrue e env whole = (do let v ← whole; standAt e.pos; holding [v] (truthy v)) := by
  cases e <;> first | rfl | cases h
/-! ### tables -/
def binOp : (op : Operator) → Option { f : D → D → Option RV // ∀ X : Cx, OpR X (binaryOp op) (rO2 X.K f) }
  | .Add => some ⟨O.add, fun _ => o_add⟩
  | .Sub => some ⟨O.sub, fun _ => o_sub⟩
  | .Mult => some ⟨O.mul, fun _ => o_mul⟩
  | .FloorDiv => some ⟨O.fdiv, fun _ => o_fdiv⟩
  | .Mod => some ⟨O.mod, fun _ => o_mod⟩
  | .Pow => some ⟨O.pow, fun _ => o_pow⟩
  | _ => none
def cmpOp : (op : CmpOp) → Option { f : D → D → Option RV // ∀ X : Cx, X.A.units + 65 < cLine → OpR X (compareOp op) (rO2 X.K f) }
  | .Eq => some ⟨O.eq, fun _ h => o_eq (by omega)⟩
  | .NotEq => some ⟨O.ne, fun _ h => o_ne (by omega)⟩
  | .Lt => some ⟨O.lt, fun _ _ => o_lt⟩
  | .LtE => some ⟨O.le, fun _ _ => o_le⟩
  | .Gt => some ⟨O.gt, fun _ _ => o_gt⟩
  | .GtE => some ⟨O.ge, fun _ _ => o_ge⟩
  | .Is => some ⟨O.isN, fun _ _ => o_is⟩
  | .IsNot => some ⟨O.notN, fun _ _ => o_isnot⟩
  | .In => some ⟨O.isin, fun _ h => o_in h⟩
  | .NotIn => some ⟨O.notin, fun _ h => o_notin h⟩
/-- a built-in by its name -/
def BF (x : Str) (f : List D → Option RV) : Prop := (∃ id, bootBuiltins x = some (.builtin id) ∧ ∀ X : Cx, X.calm = true → CallR X (.builtin id) (rON X.K f)) ∨ (∃ T, bootBuiltins x = some (.type T) ∧ ∀ X : Cx, X.calm = true → CallR X (.type T) (rON X.K f))
def bltFn (x : Str) : Option { f : List D → Option RV // BF x f } :=
  if h : x = "len" then some ⟨O.len, .inl ⟨"len", by rw [h]; decide +kernel, fun _ _ => b_len⟩⟩ else
  if h : x = "max" then some ⟨O.max2, .inl ⟨"max", by rw [h]; decide +kernel, fun _ c => b_max c⟩⟩ else
  if h : x = "min" then some ⟨O.min2, .inl ⟨"min", by rw [h]; decide +kernel, fun _ c => b_min c⟩⟩ else
  if h : x = "tuple" then some ⟨O.tuple, .inr ⟨"tuple", by rw [h]; decide +kernel, fun _ _ => t_tuple⟩⟩ else
  if h : x = "list" then some ⟨O.list, .inr ⟨"list", by rw [h]; decide +kernel, fun _ _ => t_list⟩⟩ else
  if h : x = "all" then some ⟨O.all, .inl ⟨"all", by rw [h]; decide +kernel, fun _ c => b_all c⟩⟩ else
  if h : x = "any" then some ⟨O.any, .inl ⟨"any", by rw [h]; decide +kernel, fun _ c => b_any c⟩⟩ else
  if h : x = "sum" then some ⟨O.sum, .inl ⟨"sum", by rw [h]; decide +kernel, fun _ c => b_sum c⟩⟩ else
  if h : x = "sorted" then some ⟨O.sorted, .inl ⟨"sorted", by rw [h]; decide +kernel, fun _ _ => b_sorted⟩⟩ else
  if h : x = "int" then some ⟨O.int, .inr ⟨"int", by rw [h]; decide +kernel, fun _ _ => t_int⟩⟩ else
  if h : x = "abs" then some ⟨O.abs, .inl ⟨"abs", by rw [h]; decide +kernel, fun _ _ => b_abs⟩⟩ else
  if h : x = "str" then some ⟨O.str, .inr ⟨"str", by rw [h]; decide +kernel, fun _ _ => t_str⟩⟩ else none
structure MF (name : Str) (m : Cell → List D → Option (Cell × D)) : Prop where
  ex : ∃ id, Slot "list" name id ∧ typeOf (.builtin id) = pure (.type "method_descriptor") ∧ ∀ X : Cx, MtR X id (rM X.K m)
theorem ty_append : typeOf (.builtin "list.append") = pure (.type "method_descriptor") := by show builtinType _ = _; rw [builtinType_eq_fast]; kernel_rfl
theorem ty_insert : typeOf (.builtin "list.insert") = pure (.type "method_descriptor") := by show builtinType _ = _; rw [builtinType_eq_fast]; kernel_rfl
theorem ty_pop : typeOf (.builtin "list.pop") = pure (.type "method_descriptor") := by show builtinType _ = _; rw [builtinType_eq_fast]; kernel_rfl
theorem ty_extend : typeOf (.builtin "list.extend") = pure (.type "method_descriptor") := by show builtinType _ = _; rw [builtinType_eq_fast]; kernel_rfl
def metFn (x : Str) : Option { m : Cell → List D → Option (Cell × D) // MF x m } :=
  if h : x = "append" then some ⟨M.append, ⟨"list.append", by rw [h]; exact PySem.F.slot_list_append, ty_append, fun _ => m_append⟩⟩ else
  if h : x = "insert" then some ⟨M.insert, ⟨"list.insert", by rw [h]; exact PySem.F.slot_list_insert, ty_insert, fun _ => m_insert⟩⟩ else
  if h : x = "pop" then some ⟨M.pop, ⟨"list.pop", by rw [h]; exact PySem.F.slot_list_pop, ty_pop, fun _ => m_pop⟩⟩ else
  if h : x = "extend" then some ⟨M.extend, ⟨"list.extend", by rw [h]; exact PySem.F.slot_list_extend, ty_extend, fun _ => m_extend⟩⟩ else none
def tyOf (x : Str) : Option { t : TyK // bootBuiltins x = some (.type t.nm) } :=
  if h : x = "int" then some ⟨.int, by rw [h]; decide +kernel⟩ else
  if h : x = "bool" then some ⟨.bool, by rw [h]; decide +kernel⟩ else
  if h : x = "str" then some ⟨.str, by rw [h]; decide +kernel⟩ else
  if h : x = "tuple" then some ⟨.tuple, by rw [h]; decide +kernel⟩ else
  if h : x = "list" then some ⟨.list, by rw [h]; decide +kernel⟩ else none
end RF
set_option maxRecDepth 100000
namespace RF
open PySem PySem.Spec L2
abbrev DE (S : SC) (e : Expr) := { d : Den // ∀ k X, Ctx k S X → PE X e (rdE X.K XR0 WX0 d) }
abbrev DT (S : SC) (e : Expr) := { d : TDen // ∀ k X, Ctx k S X → PT X e (rdT X.K XR0 WX0 d) }
abbrev DW (S : SC) (e : Expr) := { d : TDen // ∀ k X, Ctx k S X → PW X e (rdT X.K XR0 WX0 d) }
structure DAp (S : SC) (es : List Expr) (d : ADen) : Prop where
  ok : ∀ k X, Ctx k S X → PA X es (rdA X.K XR0 WX0 d)
  op : opds d
  ln : ∀ sl rs sl', d sl = .ok rs sl' → rs.length = es.length
  ns : es.all notStar = true
abbrev DA (S : SC) (es : List Expr) := { d : ADen // DAp S es d }
structure DBp (S : SC) (es : List Expr) (d : ADen) : Prop where
  ok : ∀ k X, Ctx k S X → PA X es (rdW X.K XR0 WX0 d)
  ln : ∀ sl rs sl', d sl = .ok rs sl' → rs.length = es.length
abbrev DB (S : SC) (es : List Expr) := { d : ADen // DBp S es d }
abbrev DI (S : SC) (tg e : Expr) := { d : IDen // ∀ k X, Ctx k S X → PI X tg e (rdI X.K XR0 WX0 d) }
abbrev DG (S : SC) (tg : Expr) := { g : GDen // ∀ k X, Ctx k S X → PG X tg (rdG X.K g) }
abbrev DGs (S : SC) (tgs : List Expr) := { g : C.GsDen // (∀ k X, Ctx k S X → PGs X tgs (rdGs X.K g)) ∧ tgs.all notStar = true }
abbrev DP (S : SC) (e : Option Expr) := { d : PDen // ∀ k X, Ctx k S X → PO X e (rdP X.K XR0 WX0 d) }
abbrev DS (S : SC) (st : Stmt) := { d : SDen // ∀ k X, Ctx k S X → PS X st (rdS X.K XR0 WX0 d) }
abbrev DSs (S : SC) (st : List Stmt) := { d : SDen // ∀ k X, Ctx k S X → PSs X st (rdS X.K XR0 WX0 d) }
/-- what is known of smaller expressions -/
structure Rec where
  E : ∀ (S : SC) (e : Expr), Option (DE S e)
  T : ∀ (S : SC) (e : Expr), Option (DT S e)

theorem acons_len {da : Den} {d : ADen} {n : Nat} (h : ∀ sl rs sl', d sl = .ok rs sl' → rs.length = n) : ∀ sl rs sl', C.acons da d sl = .ok rs sl' → rs.length = n + 1 := fun sl rs sl' q => by
  unfold C.acons at q
  cases e1 : da sl with
  | fail => rw [e1] at q; cases q
  | exc x s => rw [e1] at q; cases q
  | ok r sl1 =>
    rw [e1] at q
    simp only at q
    cases e2 : d sl1 with
    | fail => rw [e2] at q; cases q
    | exc x s => rw [e2] at q; cases q
    | ok rs2 sl2 =>
      rw [e2] at q
      cases q
      rw [List.length_cons, h _ _ _ e2]
theorem racons_len {da : Den} {d : ADen} {n : Nat} (h : ∀ sl rs sl', d sl = .ok rs sl' → rs.length = n) : ∀ sl rs sl', C.racons da d sl = .ok rs sl' → rs.length = n + 1 := fun sl rs sl' q => by
  unfold C.racons at q
  cases e1 : da sl with
  | fail => rw [e1] at q; cases q
  | exc x s => rw [e1] at q; cases q
  | ok r sl1 =>
    rw [e1] at q
    simp only at q
    cases e2 : d sl1 with
    | fail => rw [e2] at q; cases q
    | exc x s => rw [e2] at q; cases q
    | ok rs2 sl2 =>
      rw [e2] at q
      cases q
      rw [List.length_cons, h _ _ _ e2]
section
variable (r : Rec)
/-- an argument list -/
def cA (S : SC) : (es : List Expr) → Option (DA S es)
  | [] => some ⟨C.anil, fun _ _ _ => anil_ok, opds_nil, fun _ _ _ h => by cases h; rfl, rfl⟩
  | e :: es => if hn : notStar e = true then (match r.E S e, cA S es with
    | some a, some b => some ⟨C.acons a.1 b.1, fun k X c => acons_ok (a.2 k X c) (b.2.ok k X c) (star_of hn _ _), opds_cons b.2.op, acons_len b.2.ln, by rw [List.all_cons, hn, b.2.ns]; rfl⟩
    | _, _ => none) else none
def cB (S : SC) : (es : List Expr) → Option (DB S es)
  | [] => some ⟨C.anil, fun _ _ _ => ranil_ok, fun _ _ _ h => by cases h; rfl⟩
  | e :: es => if hn : notStar e = true then (match r.E S e, cB S es with
    | some a, some b => some ⟨C.racons a.1 b.1, fun k X c => racons_ok (a.2 k X c) (b.2.ok k X c) (star_of hn _ _), racons_len b.2.ln⟩
    | _, _ => none) else none
/-- tests: and, or -/
def cAnd (S : SC) (pos : Pos) : (es : List Expr) → Option (DW S (.BoolOp .And es pos))
  | [] => none
  | [a] => (r.T S a).map fun t => ⟨t.1, fun k X c => pw_and1 (t.2 k X c)⟩
  | a :: b :: es => match r.T S a, cAnd S pos (b :: es) with
    | some t, some u => some ⟨C.tand t.1 u.1, fun k X c => tand_ok (t.2 k X c) (u.2 k X c)⟩
    | _, _ => none
def cOr (S : SC) (pos : Pos) : (es : List Expr) → Option (DW S (.BoolOp .Or es pos))
  | [] => none
  | [a] => (r.T S a).map fun t => ⟨t.1, fun k X c => pw_or1 (t.2 k X c)⟩
  | a :: b :: es => match r.T S a, cOr S pos (b :: es) with
    | some t, some u => some ⟨C.tor t.1 u.1, fun k X c => tor_ok (t.2 k X c) (u.2 k X c)⟩
    | _, _ => none
def cVAnd (S : SC) (pos : Pos) : (es : List Expr) → Option (DE S (.BoolOp .And es pos))
  | [] => none
  | [a] => (r.E S a).map fun t => ⟨t.1, fun k X c => vone_ok (t.2 k X c)⟩
  | a :: b :: es => match r.E S a, cVAnd S pos (b :: es) with
    | some t, some u => some ⟨C.vand t.1 u.1, fun k X c => vand_ok (t.2 k X c) (u.2 k X c)⟩
    | _, _ => none
def cVOr (S : SC) (pos : Pos) : (es : List Expr) → Option (DE S (.BoolOp .Or es pos))
  | [] => none
  | [a] => (r.E S a).map fun t => ⟨t.1, fun k X c => vone_ok (t.2 k X c)⟩
  | a :: b :: es => match r.E S a, cVOr S pos (b :: es) with
    | some t, some u => some ⟨C.vor t.1 u.1, fun k X c => vor_ok (t.2 k X c) (u.2 k X c)⟩
    | _, _ => none
/-- a slice's part -/
def cP (S : SC) : (e : Option Expr) → Option (DP S e)
  | none => some ⟨C.pnone, fun _ _ _ => pnone_ok⟩
  | some e => (r.E S e).map fun d => ⟨C.psome d.1, fun k X c => psome_ok (d.2 k X c)⟩
/-- types' names -/
def cTys (S : SC) : (es : List Expr) → Option { ts : List TyK // (∀ k X, Ctx k S X → PA X es (fun σ H Q => Q (ts.map fun t => V.ty t.nm) H)) }
  | [] => some ⟨[], fun k X c => PA.imp pa_nil fun σ H Q h => h⟩
  | .Name x p :: es => if hg : (kindB S.sc x .globalImplicit && memB S.blt x && !plainName x) = true then (match tyOf x, cTys S es with
    | some t, some ts => some ⟨t.1 :: ts.1, fun k X c => by
        rw [Bool.and_eq_true, Bool.and_eq_true, Bool.not_eq_true'] at hg
        exact PA.imp (pa_cons (pe_bltn (v := V.ty t.1.nm) (gl_of c hg.1.1) (c.blt x (mem_of hg.1.2)) t.2 rfl (plain_3 hg.2) (plain_1 hg.2)) (ts.2 k X c) (star_of rfl _ _)) fun σ H Q h => h⟩
    | _, _ => none) else none
  | _ :: _ => none
/-- a call of a name -/
def cCall (S : SC) (x : Str) (p pos : Pos) : (es : List Expr) → Option (DE S (.Call (.Name x p) es [] pos))
  | [] => none
  | e :: es => if hg : (kindB S.sc x .globalImplicit && !plainName x) = true then (match cA r S (e :: es) with
    | none => none
    | some a => (match hf : findG S.G x with
      | some fe => if hl : (e :: es).length = fe.np then some ⟨C.ucallM fe.op fe.den a.1, fun k X c => by
          rw [Bool.and_eq_true, Bool.not_eq_true'] at hg
          have hn := a.2.ns
          rw [List.all_cons, Bool.and_eq_true] at hn
          obtain ⟨f, fd, ps, h1, h2, h3, h4⟩ := c.fns x fe (findG_ok hf)
          exact ucallM_ok a.2.op h1 c.room (gl_of c hg.1) h2 h3 h4 (a.2.ok k X c) (fun sl rs sl' h => (a.2.ln sl rs sl' h).trans hl) (plain_1 hg.2) (star_of hn.1 _ _) (stars_of hn.2)⟩ else none
      | none => if hb : memB S.blt x = true then (match bltFn x with
        | some f => some ⟨C.call f.1 a.1, fun k X c => by
            rw [Bool.and_eq_true, Bool.not_eq_true'] at hg
            have hn := a.2.ns
            rw [List.all_cons, Bool.and_eq_true] at hn
            rcases f.2 with ⟨id, h1, h2⟩ | ⟨T, h1, h2⟩
            · exact callB_ok (h2 X c.calm) (gl_of c hg.1) (c.blt x (mem_of hb)) h1 (a.2.ok k X c) (plain_3 hg.2) (plain_1 hg.2) (star_of hn.1 _ _) (stars_of hn.2)
            · exact callTy_ok (h2 X c.calm) (gl_of c hg.1) (c.blt x (mem_of hb)) h1 (a.2.ok k X c) (plain_3 hg.2) (plain_1 hg.2) (star_of hn.1 _ _) (stars_of hn.2)⟩
        | none => none) else none)) else none
/-- isinstance(e, T), isinstance(e, (T, U)) -/
def cIsi (S : SC) (x : Str) (p pos : Pos) (e : Expr) : (c : Expr) → Option (DE S (.Call (.Name x p) [e, c] [] pos))
  | .Name y q => if h : (kindB S.sc x .globalImplicit && memB S.blt x && kindB S.sc y .globalImplicit && memB S.blt y && !plainName y && notStar e) = true then if hx : x = "isinstance" then (match r.E S e, tyOf y with
    | some d, some t => some ⟨C.un (O.isi1 t.1) d.1, fun k X c => by
        simp only [Bool.and_eq_true, Bool.not_eq_true'] at h
        obtain ⟨⟨⟨⟨⟨h1, h2⟩, h3⟩, h4⟩, h5⟩, h6⟩ := h
        exact isi1_ok (q := p) hx (gl_of c h1) (c.blt x (mem_of h2)) (d.2 k X c) (pe_bltn (gl_of c h3) (c.blt y (mem_of h4)) t.2 rfl (plain_3 h5) (plain_1 h5)) (star_of h6 _ _) (star_of rfl _ _) (stars_of rfl)⟩
    | _, _ => none) else none else none
  | .Tuple es k p2 => if h : (kindB S.sc x .globalImplicit && memB S.blt x && notStar e) = true then if hx : x = "isinstance" then (match r.E S e, cTys S es with
    | some d, some ts => if hl : ts.1.length ≤ 1000 then some ⟨C.un (O.isiT ts.1) d.1, fun k X c => by
        simp only [Bool.and_eq_true] at h
        obtain ⟨⟨h1, h2⟩, h6⟩ := h
        exact isiT_ok (q := p) hx (gl_of c h1) (c.blt x (mem_of h2)) (d.2 k X c) (ts.2 k X c) hl (star_of h6 _ _) (star_of rfl _ _) (stars_of rfl)⟩ else none
    | _, _ => none) else none else none
  | _ => none
/-- list(range(..)), sorted(set(..)) -/
def cNest (S : SC) (x y : Str) (p p2 pos pos2 : Pos) : (es : List Expr) → Option (DE S (.Call (.Name x p) [.Call (.Name y p2) es [] pos] [] pos2))
  | [e] => if h : (kindB S.sc x .globalImplicit && memB S.blt x && kindB S.sc y .globalImplicit && memB S.blt y && notStar e) = true then
      if hx : x = "list" then if hy : y = "range" then (match cA r S [e] with
        | some a => some ⟨C.listI (C.iterA W.range1 a.1), fun k X c => by
            simp only [Bool.and_eq_true] at h
            obtain ⟨⟨⟨⟨h1, h2⟩, h3⟩, h4⟩, h6⟩ := h
            exact listRg1_ok hx hy a.2.op c.calm (gl_of c h1) (c.blt x (mem_of h2)) (gl_of c h3) (c.blt y (mem_of h4)) (a.2.ok k X c) (star_of h6 _ _) (star_of rfl _ _)⟩
        | none => none) else none
      else if hx : x = "sorted" then if hy : y = "set" then (match r.E S e with
        | some d => some ⟨C.un O.sset d.1, fun k X c => by
            simp only [Bool.and_eq_true] at h
            obtain ⟨⟨⟨⟨h1, h2⟩, h3⟩, h4⟩, h6⟩ := h
            exact sset_ok' hx hy c.calm (gl_of c h1) (c.blt x (mem_of h2)) (gl_of c h3) (c.blt y (mem_of h4)) (d.2 k X c) (star_of h6 _ _) (star_of rfl _ _)⟩
        | none => none) else none
      else none
    else none
  | [e, e2] => if h : (kindB S.sc x .globalImplicit && memB S.blt x && kindB S.sc y .globalImplicit && memB S.blt y && notStar e && notStar e2) = true then
      if hx : x = "list" then if hy : y = "range" then (match cA r S [e, e2] with
        | some a => some ⟨C.listI (C.iterA W.range2 a.1), fun k X c => by
            simp only [Bool.and_eq_true] at h
            obtain ⟨⟨⟨⟨⟨h1, h2⟩, h3⟩, h4⟩, h6⟩, h7⟩ := h
            exact listRg2_ok hx hy a.2.op c.calm (gl_of c h1) (c.blt x (mem_of h2)) (gl_of c h3) (c.blt y (mem_of h4)) (a.2.ok k X c) (by rw [star_of h6, star_of h7]; rfl) (by rw [star_of h7]; rfl) (star_of rfl _ _)⟩
        | none => none) else none
      else none
    else none
  | _ => none
/-- name.method(..) of an open list -/
def cMeth (S : SC) (o name : Str) (op apos cpos : Pos) : (es : List Expr) → Option (DE S (.Call (.Attribute (.Name o op) name apos) es [] cpos))
  | e :: es => if h : (visB S.sc o && !plainName o && decide ((e :: es).length < 20) && (apos.endLine == cpos.line)) = true then (match hi : ixOf S.N o, metFn name, cA r S (e :: es) with
    | some i, some m, some a => some ⟨C.mcall m.1 i a.1, fun k X c => by
        simp only [Bool.and_eq_true, Bool.not_eq_true'] at h
        obtain ⟨⟨⟨h1, h2⟩, h3⟩, h4⟩ := h
        have hn := a.2.ns
        rw [List.all_cons, Bool.and_eq_true] at hn
        obtain ⟨id, m1, m2, m3⟩ := m.2.ex
        have hN : X.N[i]? = some o := by rw [c.N]; exact ixOf_ok hi
        have h3 := of_decide_eq_true h3
        refine mcall_ok a.2.op m1 m2 (m3 X) (pe_var hN (by rw [c.sc]; exact vis_of h1) (plain_1 h2) (plain_2 h2)) (a.2.ok k X c) rfl ?_ h4 (star_of hn.1 _ _) (stars_of hn.2)
        rw [stars_all a.2.ns]
        show (true && true && decide ((e :: es).length + 0 + 0 < 30)) = true
        simp only [Bool.true_and, decide_eq_true_eq]
        omega⟩
    | _, _, _ => none) else none
  | [] => none
/-- what is walked: range, enumerate, zip, reversed; else a value -/
def cI (S : SC) (tg : Expr) (e : Expr) : Option (DI S tg e) :=
  let val : Unit → Option (DI S tg e) := fun _ => (r.E S e).map fun d => ⟨C.iter d.1, fun k X c => iter_ok (d.2 k X c)⟩
  match e, val with
  | .Call (.Name x p) es [] pos, val => if h : (kindB S.sc x .globalImplicit && memB S.blt x) = true then
      (if hx : x = "range" then (match es with
        | [a] => if h1 : notStar a = true then (cA r S [a]).map fun d => ⟨C.iterA W.range1 d.1, fun k X c => by
            rw [Bool.and_eq_true] at h
            subst hx
            exact range1_ok d.2.op (gl_of c h.1) (c.blt _ (mem_of h.2)) (d.2.ok k X c) (by rw [star_of h1]; rfl)⟩ else none
        | [a, b] => if h1 : (notStar a && notStar b) = true then (cA r S [a, b]).map fun d => ⟨C.iterA W.range2 d.1, fun k X c => by
            rw [Bool.and_eq_true] at h h1
            subst hx
            exact range2_ok d.2.op (gl_of c h.1) (c.blt _ (mem_of h.2)) (d.2.ok k X c) (by rw [star_of h1.1, star_of h1.2]; rfl) (by rw [star_of h1.2]; rfl)⟩ else none
        | [a, b, c3] => if h1 : (notStar a && (notStar b && notStar c3)) = true then (cA r S [a, b, c3]).map fun d => ⟨C.iterA W.range3 d.1, fun k X c => by
            rw [Bool.and_eq_true] at h h1
            subst hx
            exact range3_ok d.2.op (gl_of c h.1) (c.blt _ (mem_of h.2)) (d.2.ok k X c) (star_of h1.1 _ _) (stars_of (by simpa using h1.2))⟩ else none
        | _ => none)
      else if hx : x = "reversed" then (match es with
        | [a] => if h1 : notStar a = true then (r.E S a).map fun d => ⟨C.iterA W.reversed (C.acons d.1 C.anil), fun k X c => by
            rw [Bool.and_eq_true] at h
            subst hx
            exact reversed_ok (gl_of c h.1) (c.blt _ (mem_of h.2)) (d.2 k X c) (star_of h1 _ _)⟩ else none
        | _ => none)
      else if hx : x = "enumerate" then (match tg, es with
        | .Tuple elts kk tpos, [a] => if h1 : notStar a = true then (cA r S [a]).map fun d => ⟨C.iterA W.enum d.1, fun k X c => by
            rw [Bool.and_eq_true] at h
            subst hx
            exact enum_ok d.2.op (gl_of c h.1) (c.blt _ (mem_of h.2)) (d.2.ok k X c) (by rw [star_of h1]; rfl)⟩ else none
        | _, _ => none)
      else if hx : x = "zip" then (match tg, es with
        | .Tuple elts kk tpos, [a, b] => if h1 : (notStar a && notStar b) = true then (cA r S [a, b]).map fun d => ⟨C.iterA W.zip d.1, fun k X c => by
            rw [Bool.and_eq_true] at h h1
            subst hx
            exact zip_ok d.2.op (gl_of c h.1) (c.blt _ (mem_of h.2)) (d.2.ok k X c) (star_of h1.1 _ _) (stars_of (by rw [List.all_cons, h1.2]; rfl))⟩ else none
        | _, _ => none)
      else val ()) else val ()
  | _, val => val ()
end
/-- targets -/
def cGs (S : SC) (f : ∀ tg, Option (DG S tg)) : (tgs : List Expr) → Option (DGs S tgs)
  | [] => some ⟨C.gnil, fun _ _ _ => gnil_ok, rfl⟩
  | t :: ts => if hn : notStar t = true then (match f t, cGs S f ts with
    | some g, some h => some ⟨C.gcons g.1 h.1, fun k X c => gcons_ok (g.2 k X c) (h.2.1 k X c) (by rw [assign_of hn]; rfl), by rw [List.all_cons, hn, h.2.2]; rfl⟩
    | _, _ => none) else none
def cG (S : SC) : Nat → (tg : Expr) → Option (DG S tg)
  | 0, _ => none
  | n + 1, .Name x p => if h : putB S x = true then (match hi : ixOf S.N x with
    | some i => some ⟨C.gname i, fun k X c => gname_ok c.nd (by rw [c.N]; exact ixOf_ok hi) (put_of c h).1 (put_of c h).2⟩
    | none => none) else none
  | n + 1, .Tuple es kk p => match cGs S (cG S n) es with
    | some g => some ⟨C.gtup es.length g.1, fun k X c => gtup_ok c.calm (g.2.1 k X c) (assigns_len g.2.2) (assigns_star g.2.2)⟩
    | none => none
  | _, _ => none
end RF
set_option maxRecDepth 100000
namespace RF
open PySem PySem.Spec L2
/-! ### expressions, tests -/
def ownOf (N : List Str) (scope : Scope) : List (Str × Nat) := scope.names.filterMap fun y => match y.2 with
  | .local => (ixOf N y.1).map fun i => (y.1, i)
  | .cell => (ixOf N y.1).map fun i => (y.1, i)
  | _ => none
/-- a comprehension's pieces -/
structure LcP (S : SC) (elt tg iter : Expr) (ifs : List Expr) (scope : Scope) where
  it : DI S tg iter
  g : DG (S.blk scope) tg
  t : TDen
  d : DE (S.blk scope) elt
  ht : ∀ k X, Ctx k (S.blk scope) X → PTs X ifs (rdT X.K XR0 WX0 t)
  ok : blkC S.N S.sc scope (ownOf S.N scope) = true
  tch : (g.1.tch.all fun i => ((ownOf S.N scope).map (·.2)).contains i) = true
  ns : notSet iter = true
def LcP.den {S : SC} {elt tg iter : Expr} {ifs : List Expr} {scope : Scope} (l : LcP S elt tg iter ifs scope) : Den := C.lc l.it.1 l.g.1 l.t l.d.1 ((ownOf S.N scope).map (·.2))
theorem LcP.pe {S : SC} {elt tg iter : Expr} {ifs : List Expr} {scope : Scope} (l : LcP S elt tg iter ifs scope) {pos : Pos} (k : Nat) (X : Cx) (c : Ctx k S X) : PE X (.ListComp elt [⟨tg, iter, ifs, 0⟩] scope pos) (rdE X.K XR0 WX0 l.den) :=
  lc_ok c.calm c.nd (l.it.2 k X c) (blkOk_by (by rw [c.N, c.sc]; exact l.ok)) (fun s H C cl fp => l.g.2 k _ (c.blk scope s H C cl fp)) (fun s H C cl fp => l.ht k _ (c.blk scope s H C cl fp)) (fun s H C cl fp => l.d.2 k _ (c.blk scope s H C cl fp)) (folded_of l.ns _)
    fun i hi => by
      have q := List.all_eq_true.mp l.tch i hi
      simpa using q
theorem LcP.ps {S : SC} {elt tg iter : Expr} {ifs : List Expr} {scope : Scope} (l : LcP S elt tg iter ifs scope) {pos py spos : Pos} {y : Str} {i : Nat} (k : Nat) (X : Cx) (c : Ctx k S X) (hk : S.sc.kind = .function) (hi : ixOf S.N y = some i) (hy : kindB S.sc y .local = true) (hl : (py.line == pos.line) = true)
    (ha : (scope.names.any fun (n, k) => n == y && (k == .local || k == .cell)) = false) : PS X (.Assign [.Name y py] (.ListComp elt [⟨tg, iter, ifs, 0⟩] scope pos) spos) (rdS X.K XR0 WX0 (C.set i l.den)) := by
  have hyl : X.env.scope.names.lookup y = some .local := by
    rw [c.sc]
    unfold kindB at hy
    simpa using hy
  exact setLc_ok c.calm c.nd (by rw [c.N]; exact ixOf_ok hi) hyl (sw_true (by rw [c.sc]; exact hk) hyl hl ha) (l.it.2 k X c) (blkOk_by (by rw [c.N, c.sc]; exact l.ok)) (fun s H C cl fp => l.g.2 k _ (c.blk scope s H C cl fp)) (fun s H C cl fp => l.ht k _ (c.blk scope s H C cl fp)) (fun s H C cl fp => l.d.2 k _ (c.blk scope s H C cl fp)) (folded_of l.ns _)
    fun i hi => by
      have q := List.all_eq_true.mp l.tch i hi
      simpa using q
/-- not exchanged: the store is a plain one -/
theorem sw_false {elt : Expr} {gs : List Comprehension} {scope : Scope} {pos py : Pos} {y : Str} {l : Nat} {env : Env} (h : (env.scope.kind = .function ∧ env.kindOf y = some .local ∧ (py.line == pos.line) = true ∧ (scope.names.any fun (n, k) => n == y && (k == .local || k == .cell)) = false) → False) (hk : env.scope.kind = .function) :
    swapsWith (.ListComp elt gs scope pos) (some (.Name y py)) l env = pure false := by
  have hb : env.blockKind = .function := by unfold Env.blockKind; rw [hk]; rfl
  unfold swapsWith
  simp only [hb, Expr.pos]
  have e : ((ScopeKind.function == ScopeKind.function) && (env.kindOf y == some NameKind.local) && (py.line == pos.line) && !(scope.names.any fun (n, k) => n == y && (k == .local || k == .cell))) = false := by
    cases h1 : (env.kindOf y == some NameKind.local) with
    | false => rfl
    | true =>
      cases h2 : (py.line == pos.line) with
      | false => rfl
      | true =>
        cases h3 : (scope.names.any fun (n, k) => n == y && (k == .local || k == .cell)) with
        | true => rfl
        | false => exact (h ⟨hk, by simpa using h1, h2, h3⟩).elim
  exact congrArg pure e
section
variable (r : Rec)
def cTs (S : SC) : (ifs : List Expr) → Option { t : TDen // ∀ k X, Ctx k S X → PTs X ifs (rdT X.K XR0 WX0 t) }
  | [] => some ⟨C.tyes, fun _ _ _ => tyes_ok⟩
  | [a] => (r.T S a).map fun t => ⟨t.1, fun k X c => pts_one (t.2 k X c)⟩
  | _ => none
def cLc (n : Nat) (S : SC) (elt tg iter : Expr) (ifs : List Expr) (scope : Scope) : Option (LcP S elt tg iter ifs scope) :=
  if ok : blkC S.N S.sc scope (ownOf S.N scope) = true then if ns : notSet iter = true then (match cI r S tg iter, cG (S.blk scope) n tg, cTs r (S.blk scope) ifs, r.E (S.blk scope) elt with
    | some it, some g, some t, some d => if h : (g.1.tch.all fun i => ((ownOf S.N scope).map (·.2)).contains i) = true then some ⟨it, g, t.1, d, t.2, ok, h, ns⟩ else none
    | _, _, _, _ => none) else none else none
/-- one step of the compiler: expressions -/
def cE (n : Nat) (S : SC) : (e : Expr) → Option (DE S e)
  | .Constant .none j p => some ⟨C.const .non, fun _ _ _ => const_ok pe_non fun _ => .non⟩
  | .Constant (.bool b) j p => some ⟨C.const (.bl b), fun _ _ _ => const_ok pe_bl fun _ => .bl b⟩
  | .Constant (.int i) j p => some ⟨C.const (.int i), fun _ _ _ => const_ok pe_int fun _ => .int i⟩
  | .Constant (.str x) j p => some ⟨C.const (.str x), fun _ _ _ => const_ok pe_str fun _ => .str x⟩
  | .Name x p => if hp : plainName x = false then (if hv : visB S.sc x = true then (match hi : ixOf S.N x with
      | some i => some ⟨C.var i, fun k X c => var_ok (pe_var (by rw [c.N]; exact ixOf_ok hi) (by rw [c.sc]; exact vis_of hv) (plain_1 hp) (plain_2 hp))⟩
      | none => none)
    else if hg : kindB S.sc x .globalImplicit = true then (match hc : findG S.cst x with
      | some d => some ⟨C.const d, fun k X c => by
          obtain ⟨v, u, h1, h2, h3⟩ := c.cst x d (findG_ok hc)
          exact const_ok (pe_glob (gl_of c hg) h1 h2 (plain_1 hp)) h3⟩
      | none => none)
    else none) else none
  | .BinOp a op b p => match binOp op, r.E S a, r.E S b with
    | some f, some x, some y => some ⟨C.bin f.1 x.1 y.1, fun k X c => bin_ok (f.2 X) (x.2 k X c) (y.2 k X c)⟩
    | _, _, _ => none
  | .UnaryOp .USub a p => (r.E S a).map fun x => ⟨C.un O.neg x.1, fun k X c => un_ok u_neg (x.2 k X c)⟩
  | .UnaryOp .Not a p => (r.E S a).map fun x => ⟨C.vnot x.1, fun k X c => vnot_ok (x.2 k X c)⟩
  | .Compare a [op] [b] p => if h : notSet b = true then (match cmpOp op, r.E S a, r.E S b with
    | some f, some x, some y => some ⟨C.bin f.1 x.1 y.1, fun k X c => cmp_ok (f.2 X c.un) (x.2 k X c) (y.2 k X c) (marks_of h op)⟩
    | _, _, _ => none) else none
  | .Compare a [op, op'] [b, b'] p => if h : notSet b' = true then (match cmpOp op, cmpOp op', r.E S a, r.E S b, r.E S b' with
    | some f, some g, some x, some y, some z => some ⟨C.chain f.1 g.1 x.1 y.1 z.1, fun k X c => chain_ok (f.2 X c.un) (g.2 X c.un) (x.2 k X c) (y.2 k X c) (z.2 k X c) (marks_of h op')⟩
    | _, _, _, _, _ => none) else none
  | .BoolOp .And es p => cVAnd r S p es
  | .BoolOp .Or es p => cVOr r S p es
  | .IfExp t a b p => match r.T S t, r.E S a, r.E S b with
    | some x, some y, some z => some ⟨C.ite x.1 y.1 z.1, fun k X c => ite_ok (x.2 k X c) (y.2 k X c) (z.2 k X c)⟩
    | _, _, _ => none
  | .Tuple es k p => (cA r S es).map fun a => ⟨C.tup a.1, fun k X c => tup_ok a.2.op (a.2.ok k X c)⟩
  | .List es p => (cA r S es).map fun a => ⟨C.lst a.1, fun k X c => lst_ok a.2.op (a.2.ok k X c)⟩
  | .Subscript a (.Slice none none (some (.UnaryOp .USub (.Constant (.int 1) k p1) p2)) p3) p => (r.E S a).map fun x => ⟨C.un O.backw x.1, fun k X c => back_ok (x.2 k X c)⟩
  | .Subscript a (.Slice lo hi none p2) p => match r.E S a, cP r S lo, cP r S hi with
    | some x, some l, some h => some ⟨C.slice x.1 l.1 h.1, fun k X c => slice_ok (x.2 k X c) (l.2 k X c) (h.2 k X c)⟩
    | _, _, _ => none
  | .Subscript a b p => if h : notSlice b = true then (match r.E S a, r.E S b with
    | some x, some y => some ⟨C.bin O.ix x.1 y.1, fun k X c => ix_ok o_ix (x.2 k X c) (y.2 k X c) (plain_of h)⟩
    | _, _ => none) else none
  | .ListComp elt [⟨tg, iter, ifs, 0⟩] scope p => (cLc r n S elt tg iter ifs scope).map fun l => ⟨l.den, fun k X c => l.pe k X c⟩
  | .Call (.Name x p) [.Call (.Name y p2) es [] q] [] pos => (match cNest r S x y p p2 q pos es with
    | some d => some d
    | none => cCall r S x p pos [.Call (.Name y p2) es [] q])
  | .Call (.Name x p) [e, c] [] pos => (match cIsi r S x p pos e c with
    | some d => some d
    | none => cCall r S x p pos [e, c])
  | .Call (.Name x p) es [] pos => cCall r S x p pos es
  | .Call (.Attribute (.Name o op) name apos) es [] cpos => cMeth r S o name op apos cpos es
  | _ => none
def cT (S : SC) : (e : Expr) → Option (DT S e)
  | .BoolOp .And es p => (cAnd r S p es).map fun t => ⟨t.1, fun k X c => (t.2 k X c).pt⟩
  | .BoolOp .Or es p => (cOr r S p es).map fun t => ⟨t.1, fun k X c => (t.2 k X c).pt⟩
  | .UnaryOp .Not a p => (r.T S a).map fun t => ⟨C.tnot t.1, fun k X c => tnot_ok (t.2 k X c)⟩
  | .Compare a [op] [b] p => if h : notSet b = true then (match cmpOp op, r.E S a, r.E S b with
    | some f, some x, some y => some ⟨C.tv (C.bin f.1 x.1 y.1), fun k X c => tcmp_ok (f.2 X c.un) (x.2 k X c) (y.2 k X c) (marks_of h op)⟩
    | _, _, _ => none) else none
  | .Compare a [op, op'] [b, b'] p => if h : notSet b' = true then (match cmpOp op, cmpOp op', r.E S a, r.E S b, r.E S b' with
    | some f, some g, some x, some y, some z => some ⟨C.tv (C.chain f.1 g.1 x.1 y.1 z.1), fun k X c => tchain_ok (f.2 X c.un) (g.2 X c.un) (x.2 k X c) (y.2 k X c) (z.2 k X c) (marks_of h op')⟩
    | _, _, _, _, _ => none) else none
  | e => if h : truE e = true then (r.E S e).map fun d => ⟨C.tru d.1, fun k X c => ttru_ok (d.2 k X c) (tru_of h _)⟩ else none
end
/-- the compiler for expressions, by depth -/
def comp : Nat → Rec
  | 0 => ⟨fun _ _ => none, fun _ _ => none⟩
  | n + 1 => ⟨fun S e => cE (comp n) n S e, fun S e => cT (comp n) S e⟩
end RF
set_option maxRecDepth 100000
namespace RF
open PySem PySem.Spec L2
/-! ### statements -/
def locName (sc : Scope) : Expr → Bool
  | .Name x _ => kindB sc x .local
  | _ => false
def notTup : Expr → Bool
  | .Tuple .. => false
  | _ => true
theorem swn_of {e : Expr} (h : notTup e = true) (ts : List Expr) (env : Env) : swappedStores ts e env = pure none := by
  unfold swappedStores
  cases e <;> first | (cases h; done) | skip
  all_goals
    cases ts with
    | nil => rfl
    | cons t ts =>
      cases ts with
      | nil => cases t <;> rfl
      | cons t2 ts => cases t <;> rfl
theorem swn_sub {e o i : Expr} {p : Pos} (env : Env) : swappedStores [.Subscript o i p] e env = pure none := by
  unfold swappedStores
  cases e <;> rfl
theorem filt_len {env : Env} {line : Nat} : ∀ {ts : List Expr}, ts.all (locName env.scope) = false → ((ts.filterMap fun
    | .Name id pos => if env.kindOf id == some .local && pos.line == line then some id else none
    | _ => none).length != ts.length) = true := by
  intro ts h
  have le : ∀ ts : List Expr, (ts.filterMap fun
    | .Name id pos => if env.kindOf id == some .local && pos.line == line then some id else none
    | _ => none).length ≤ ts.length := fun ts => List.length_filterMap_le _ _
  have lt : ∀ {ts : List Expr}, ts.all (locName env.scope) = false → (ts.filterMap fun
    | .Name id pos => if env.kindOf id == some .local && pos.line == line then some id else none
    | _ => none).length < ts.length := by
    intro ts
    induction ts with
    | nil => intro h; cases h
    | cons t ts ih =>
      intro h
      rw [List.all_cons, Bool.and_eq_false_iff] at h
      rcases h with h | h
      · rw [List.filterMap_cons]
        have hn : (match t with
          | .Name id pos => if env.kindOf id == some .local && pos.line == line then some id else none
          | _ => none) = none := by
          cases t with
          | Name x p =>
            have e : env.kindOf x ≠ some .local := fun z => by
              have : locName env.scope (.Name x p) = true := by
                unfold locName kindB
                exact decide_eq_true z
              rw [this] at h; cases h
            simp [e]
          | _ => rfl
        rw [hn]
        exact Nat.lt_succ_of_le (le ts)
      · have := ih h
        rw [List.filterMap_cons]
        split
        · exact Nat.lt_succ_of_lt this
        · exact Nat.succ_lt_succ this
  have := lt h
  rw [bne_iff_ne]
  omega
theorem swn_tup {ts vs : List Expr} {k k2 : Nat} {p p2 : Pos} (env : Env) (h : (!(ts.length == 2 || ts.length == 3) || !(ts.all (locName env.scope))) = true) : swappedStores [.Tuple ts k p] (.Tuple vs k2 p2) env = pure none := by
  unfold swappedStores
  simp only [bind_pure_comp]
  show (if _ then pure none else _) = _
  split
  · rfl
  · rename_i h1
    show (if _ then pure none else _) = _
    split
    · rfl
    · have ha : ts.all (locName env.scope) = false := by
        rw [Bool.or_eq_true] at h
        rcases h with h | h
        · exfalso
          apply h1
          rw [h]
          rfl
        · simpa using h
      show (if _ then pure none else _) = _
      exact if_pos (by rw [Bool.or_eq_true]; exact .inl (filt_len ha))
/-- a, b = x, y: stored from the right -/
theorem sw2 {x y : Str} {a b : Expr} {px py pt p2 : Pos} {kt k2 : Nat} {env : Env} (hk : env.scope.kind = .function) (hx : env.kindOf x = some .local) (hy : env.kindOf y = some .local) (hp : (py.line == px.line) = true) (hxy : x ≠ y)
    (hs : (notStar a && notStar b) = true) (hf : (foldedForSure 8 a && foldedForSure 8 b) = false) (hc : (constantsAlone 8 a && constantsAlone 8 b) = false) : swappedStores [.Tuple [.Name x px, .Name y py] kt pt] (.Tuple [a, b] k2 p2) env = pure (some [x, y]) := by
  have hb : env.blockKind = .function := by unfold Env.blockKind; rw [hk]; rfl
  rw [Bool.and_eq_true] at hs
  have s1 : ∀ {e : Expr}, notStar e = true → (match e with | .Starred .. => true | _ => false) = false := fun {e} h => by cases e <;> first | rfl | cases h
  unfold swappedStores
  show (if _ then pure none else _) = _
  rw [if_neg (by simp [hb])]
  show (if _ then pure none else _) = _
  rw [if_neg (by simp only [List.any_cons, List.any_nil, Bool.or_false, Bool.or_eq_true, not_or, Bool.not_eq_true]; exact ⟨s1 hs.1, s1 hs.2⟩)]
  have hp2 : py.line = px.line := by simpa using hp
  have hn : ([Expr.Name x px, Expr.Name y py].filterMap fun
    | .Name id pos => if env.kindOf id == some .local && pos.line == (([Expr.Name x px, Expr.Name y py].head?).map (·.pos.line)).getD 0 then some id else none
    | _ => none) = [x, y] := by
    have e1 : (([Expr.Name x px, Expr.Name y py].head?).map (·.pos.line)).getD 0 = px.line := rfl
    rw [e1]
    have q1 : (env.kindOf x == some .local && px.line == px.line) = true := by rw [hx]; simp
    have q2 : (env.kindOf y == some .local && py.line == px.line) = true := by rw [hy, hp2]; simp
    have r1 : (if (env.kindOf x == some .local && px.line == px.line) = true then some x else none) = some x := if_pos q1
    have r2 : (if (env.kindOf y == some .local && py.line == px.line) = true then some y else none) = some y := if_pos q2
    have gen : ∀ (f : Expr → Option Str) (A B : Expr), f A = some x → f B = some y → [A, B].filterMap f = [x, y] := fun f A B h1 h2 => by simp [h1, h2]
    exact gen _ _ _ r1 r2
  have hd : [x, y].eraseDups.length = 2 := by
    have : (y == x) = false := by simpa using fun z => hxy z.symm
    simp [List.eraseDups_cons, this]
  show (if _ then pure none else _) = _
  rw [if_neg]
  · show (if _ then pure none else _) = _
    rw [if_neg (by simp only [List.all_cons, List.all_nil, Bool.and_true]; rw [hf]; exact Bool.false_ne_true)]
    have hcc : ([a, b].all (constantsAlone 8)) = false := by simp only [List.all_cons, List.all_nil, Bool.and_true]; exact hc
    rw [hcc]
    show pure (some _) = _
    exact congrArg (fun z => pure (some z)) hn
  · intro z
    rw [Bool.or_eq_true] at z
    have hl := congrArg List.length hn
    rcases z with z | z
    · have z2 := bne_iff_ne.mp z
      exact z2 hl
    · have z2 := bne_iff_ne.mp z
      refine z2 ?_
      have h2 := congrArg (fun l : List Str => l.eraseDups.length) hn
      exact (h2.trans hd).trans hl.symm
/-- a, b, c = x, y, z: stored from the right -/
theorem sw3 {x y z : Str} {a b c : Expr} {px py pz pt p2 : Pos} {kt k2 : Nat} {env : Env} (hk : env.scope.kind = .function) (hx : env.kindOf x = some .local) (hy : env.kindOf y = some .local) (hz : env.kindOf z = some .local) (hp : (py.line == px.line) = true) (hq : (pz.line == px.line) = true) (hxy : x ≠ y) (hxz : x ≠ z) (hyz : y ≠ z)
    (hs : (notStar a && notStar b && notStar c) = true) (hf : (foldedForSure 8 a && foldedForSure 8 b && foldedForSure 8 c) = false) (hc : (constantsAlone 8 a && constantsAlone 8 b && constantsAlone 8 c) = false) : swappedStores [.Tuple [.Name x px, .Name y py, .Name z pz] kt pt] (.Tuple [a, b, c] k2 p2) env = pure (some [x, y, z]) := by
  have hb : env.blockKind = .function := by unfold Env.blockKind; rw [hk]; rfl
  rw [Bool.and_eq_true, Bool.and_eq_true] at hs
  have s1 : ∀ {e : Expr}, notStar e = true → (match e with | .Starred .. => true | _ => false) = false := fun {e} h => by cases e <;> first | rfl | cases h
  unfold swappedStores
  show (if _ then pure none else _) = _
  rw [if_neg (by simp [hb])]
  show (if _ then pure none else _) = _
  rw [if_neg (by simp only [List.any_cons, List.any_nil, Bool.or_false, Bool.or_eq_true, not_or, Bool.not_eq_true]; exact ⟨s1 hs.1.1, s1 hs.1.2, s1 hs.2⟩)]
  have hp2 : py.line = px.line := by simpa using hp
  have hq2 : pz.line = px.line := by simpa using hq
  have hn : ([Expr.Name x px, Expr.Name y py, Expr.Name z pz].filterMap fun
    | .Name id pos => if env.kindOf id == some .local && pos.line == (([Expr.Name x px, Expr.Name y py, Expr.Name z pz].head?).map (·.pos.line)).getD 0 then some id else none
    | _ => none) = [x, y, z] := by
    have e1 : (([Expr.Name x px, Expr.Name y py, Expr.Name z pz].head?).map (·.pos.line)).getD 0 = px.line := rfl
    rw [e1]
    have q1 : (env.kindOf x == some .local && px.line == px.line) = true := by rw [hx]; simp
    have q2 : (env.kindOf y == some .local && py.line == px.line) = true := by rw [hy, hp2]; simp
    have q3 : (env.kindOf z == some .local && pz.line == px.line) = true := by rw [hz, hq2]; simp
    have r1 : (if (env.kindOf x == some .local && px.line == px.line) = true then some x else none) = some x := if_pos q1
    have r2 : (if (env.kindOf y == some .local && py.line == px.line) = true then some y else none) = some y := if_pos q2
    have r3 : (if (env.kindOf z == some .local && pz.line == px.line) = true then some z else none) = some z := if_pos q3
    have gen : ∀ (f : Expr → Option Str) (A B C : Expr), f A = some x → f B = some y → f C = some z → [A, B, C].filterMap f = [x, y, z] := fun f A B C h1 h2 h3 => by simp [h1, h2, h3]
    exact gen _ _ _ _ r1 r2 r3
  have hd : [x, y, z].eraseDups.length = 3 := by
    have e1 : (y == x) = false := by simpa using fun q => hxy q.symm
    have e2 : (z == x) = false := by simpa using fun q => hxz q.symm
    have e3 : (z == y) = false := by simpa using fun q => hyz q.symm
    simp [List.eraseDups_cons, e1, e2, e3]
  show (if _ then pure none else _) = _
  rw [if_neg]
  · show (if _ then pure none else _) = _
    rw [if_neg (by simp only [List.all_cons, List.all_nil, Bool.and_true]; rw [← Bool.and_assoc, hf]; exact Bool.false_ne_true)]
    have hcc : ([a, b, c].all (constantsAlone 8)) = false := by simp only [List.all_cons, List.all_nil, Bool.and_true]; rw [← Bool.and_assoc]; exact hc
    rw [hcc]
    show pure (some _) = _
    exact congrArg (fun z => pure (some z)) hn
  · intro q
    rw [Bool.or_eq_true] at q
    have hl := congrArg List.length hn
    rcases q with q | q
    · have z2 := bne_iff_ne.mp q
      exact z2 hl
    · have z2 := bne_iff_ne.mp q
      refine z2 ?_
      have h2 := congrArg (fun l : List Str => l.eraseDups.length) hn
      exact (h2.trans hd).trans hl.symm
end RF
set_option maxRecDepth 100000
namespace RF
open PySem PySem.Spec L2
theorem Ctx.pass {k : Nat} {S : SC} {X : Cx} (c : Ctx k S X) : PassesOwn (model X.prog X.w) X.A X.env X.xe := by
  rw [c.xe]
  exact PassesOwn.never
/-- a, b = x, y is exchanged -/
def par2B (S : SC) (x y : Str) (px py : Pos) (a b : Expr) : Bool :=
  decide (S.sc.kind = .function) && kindB S.sc x .local && kindB S.sc y .local && (py.line == px.line) && decide (x ≠ y) && (notStar a && notStar b) && !(foldedForSure 8 a && foldedForSure 8 b) && !(constantsAlone 8 a && constantsAlone 8 b)
def par3B (S : SC) (x y z : Str) (px py pz : Pos) (a b c : Expr) : Bool :=
  decide (S.sc.kind = .function) && kindB S.sc x .local && kindB S.sc y .local && kindB S.sc z .local && (py.line == px.line) && (pz.line == px.line) && decide (x ≠ y) && decide (x ≠ z) && decide (y ≠ z) && (notStar a && notStar b && notStar c) &&
    !(foldedForSure 8 a && foldedForSure 8 b && foldedForSure 8 c) && !(constantsAlone 8 a && constantsAlone 8 b && constantsAlone 8 c)
theorem kind_of {k : Nat} {S : SC} {X : Cx} {x : Str} {kd : NameKind} (c : Ctx k S X) (h : kindB S.sc x kd = true) : X.env.scope.names.lookup x = some kd := by
  rw [c.sc]
  unfold kindB at h
  simpa using h
theorem ix_ne {N : List Str} {x y : Str} {i j : Nat} (hi : ixOf N x = some i) (hj : ixOf N y = some j) (h : x ≠ y) : i ≠ j := fun e => by
  subst e
  have h1 := ixOf_ok hi
  rw [ixOf_ok hj] at h1
  cases h1
  exact h rfl
/-- a list of statements -/
def cSs (S : SC) (f : ∀ st, Option (DS S st)) : (sts : List Stmt) → Option (DSs S sts)
  | [] => some ⟨C.pass, fun _ _ _ => snil_ok⟩
  | [st] => (f st).map fun d => ⟨d.1, fun k X c => sone_ok (d.2 k X c)⟩
  | st :: st2 :: sts => match f st, cSs S f (st2 :: sts) with
    | some d, some e => some ⟨C.seq d.1 e.1, fun k X c => scons_ok (d.2 k X c) (e.2 k X c)⟩
    | _, _ => none
section
variable (r : Rec) (m : Nat)
def cSet (S : SC) (x : Str) (p spos : Pos) (e : Expr) (hs : ∀ k X, Ctx k S X → swapsWith e (some (.Name x p)) spos.line X.env = pure false) : Option (DS S (.Assign [.Name x p] e spos)) :=
  if h : putB S x = true then (match hi : ixOf S.N x, r.E S e with
    | some i, some d => some ⟨C.set i d.1, fun k X c => set_ok c.nd (by rw [c.N]; exact ixOf_ok hi) (put_of c h).1 (d.2 k X c) (hs k X c) (put_of c h).2⟩
    | _, _ => none) else none
/-- is the store exchanged with the block's end? -/
def swapB (S : SC) (y : Str) (py pos : Pos) (scope : Scope) : Bool := kindB S.sc y .local && (py.line == pos.line) && !(scope.names.any fun (n, k) => n == y && (k == .local || k == .cell))
def cAsgT (S : SC) (ts : List Expr) (kt : Nat) (pt pos : Pos) (e : Expr) (hw : ∀ k X, Ctx k S X → swappedStores [.Tuple ts kt pt] e X.env = pure none) : Option (DS S (.Assign [.Tuple ts kt pt] e pos)) :=
  match cG S m (.Tuple ts kt pt), r.E S e with
  | some g, some d => some ⟨C.asg g.1 d.1, fun k X c => asg_ok (d.2 k X c) (g.2 k X c) (swaps_tup _ _) (hw k X c) rfl⟩
  | _, _ => none
/-- one step of the compiler: statements -/
def cSt (S : SC) (f : ∀ st, Option (DS S st)) : (st : Stmt) → Option (DS S st)
  | .Return none p => some ⟨C.retN, fun _ _ _ => retN_ok⟩
  | .Return (some e) p => (r.E S e).map fun d => ⟨C.ret d.1, fun k X c => ret_ok (d.2 k X c)⟩
  | .Expr e p => if h : notLc e = true then (r.E S e).map fun d => ⟨C.drop d.1, fun k X c => drop_ok (d.2 k X c) (swaps_of h _ _ _)⟩ else none
  | .Pass p => some ⟨C.pass, fun _ _ _ => pass_ok⟩
  | .Break p => some ⟨C.brk, fun _ _ _ => brk_ok⟩
  | .Continue p => some ⟨C.cnt, fun _ _ _ => cnt_ok⟩
  | .If t a b p => (match r.T S t, cSs S f a, cSs S f b with
    | some x, some y, some z => some ⟨C.ifS x.1 y.1 z.1, fun k X c => if_ok (x.2 k X c) (y.2 k X c) (z.2 k X c)⟩
    | _, _, _ => none)
  | .For tg iter body [] p => if h : notSet iter = true then (match cI r S tg iter, cG S m tg, cSs S f body with
    | some it, some g, some b => some ⟨C.forS g.1 it.1 b.1, fun k X c => for_ok c.pass c.calm (it.2 k X c) (g.2 k X c) (b.2 k X c) (folded_of h _)⟩
    | _, _, _ => none) else none
  | .Assign [.Name x px] (.ListComp elt [⟨tg, iter, ifs, 0⟩] scope p) sp => if hk : S.sc.kind = .function then (if h : swapB S x px p scope = true then (match hi : ixOf S.N x, cLc r m S elt tg iter ifs scope with
      | some i, some l => some ⟨C.set i l.den, fun k X c => by
          unfold swapB at h
          rw [Bool.and_eq_true, Bool.and_eq_true, Bool.not_eq_true'] at h
          exact l.ps k X c hk hi h.1.1 h.1.2 h.2⟩
      | _, _ => none)
    else cSet r S x px sp (.ListComp elt [⟨tg, iter, ifs, 0⟩] scope p) fun k X c => sw_false (fun q => h (by
        unfold swapB kindB
        rw [Bool.and_eq_true, Bool.and_eq_true, Bool.not_eq_true']
        refine ⟨⟨?_, q.2.2.1⟩, q.2.2.2⟩
        rw [decide_eq_true_eq, ← c.sc]
        exact q.2.1)) (by rw [c.sc]; exact hk)) else none
  | .Assign [.Name x px] e sp => if h : notLc e = true then cSet r S x px sp e fun _ _ _ => swaps_of h _ _ _ else none
  | .Assign [.Tuple [.Name x px, .Name y py] kt pt] (.Tuple [a, b] k2 p2) p => if h : par2B S x y px py a b = true then (match hi : ixOf S.N x, hj : ixOf S.N y, cB r S [a, b] with
      | some i, some j, some d => some ⟨C.par [i, j] d.1, fun k X c => by
          unfold par2B at h
          simp only [Bool.and_eq_true, Bool.not_eq_true', decide_eq_true_eq] at h
          obtain ⟨⟨⟨⟨⟨⟨⟨h1, h2⟩, h3⟩, h4⟩, h5⟩, h6⟩, h7⟩, h8⟩ := h
          exact par2_ok c.calm c.nd (by rw [c.N]; exact ixOf_ok hi) (by rw [c.N]; exact ixOf_ok hj) (ix_ne hi hj h5) (kind_of c h2) (kind_of c h3) (d.2.ok k X c) d.2.ln
            (sw2 (by rw [c.sc]; exact h1) (kind_of c h2) (kind_of c h3) h4 h5 (by rw [h6.1, h6.2]; rfl) h7 h8) (swaps_tup _ _)⟩
      | _, _, _ => none)
    else if h : (!([Expr.Name x px, .Name y py].length == 2 || [Expr.Name x px, .Name y py].length == 3) || !([Expr.Name x px, .Name y py].all (locName S.sc))) = true then
      cAsgT r m S [.Name x px, .Name y py] kt pt p (.Tuple [a, b] k2 p2) fun k X c => swn_tup _ (by rw [c.sc]; exact h)
    else none
  | .Assign [.Tuple [.Name x px, .Name y py, .Name z pz] kt pt] (.Tuple [a, b, b'] k2 p2) p => if h : par3B S x y z px py pz a b b' = true then (match hi : ixOf S.N x, hj : ixOf S.N y, hl : ixOf S.N z, cB r S [a, b, b'] with
      | some i, some j, some l, some d => some ⟨C.par [i, j, l] d.1, fun k X c => by
          unfold par3B at h
          simp only [Bool.and_eq_true, Bool.not_eq_true', decide_eq_true_eq] at h
          obtain ⟨⟨⟨⟨⟨⟨⟨⟨⟨⟨⟨h1, h2⟩, h3⟩, h4⟩, h5⟩, h6⟩, h7⟩, h8⟩, h9⟩, h10⟩, h11⟩, h12⟩ := h
          exact par3_ok c.calm c.nd (by rw [c.N]; exact ixOf_ok hi) (by rw [c.N]; exact ixOf_ok hj) (by rw [c.N]; exact ixOf_ok hl) (ix_ne hi hj h7) (ix_ne hi hl h8) (ix_ne hj hl h9) (kind_of c h2) (kind_of c h3) (kind_of c h4) (d.2.ok k X c) d.2.ln
            (sw3 (by rw [c.sc]; exact h1) (kind_of c h2) (kind_of c h3) (kind_of c h4) h5 h6 h7 h8 h9 (by rw [h10.1.1, h10.1.2, h10.2]; rfl) h11 h12) (swaps_tup _ _)⟩
      | _, _, _, _ => none)
    else if h : (!([Expr.Name x px, .Name y py, .Name z pz].length == 2 || [Expr.Name x px, .Name y py, .Name z pz].length == 3) || !([Expr.Name x px, .Name y py, .Name z pz].all (locName S.sc))) = true then
      cAsgT r m S [.Name x px, .Name y py, .Name z pz] kt pt p (.Tuple [a, b, b'] k2 p2) fun k X c => swn_tup _ (by rw [c.sc]; exact h)
    else none
  | .Assign [.Tuple ts kt pt] e p => if h : notTup e = true then cAsgT r m S ts kt pt p e fun k X c => swn_of h _ _ else none
  | .Assign [.Subscript (.Name o op) ix tp] e p => if h : (visB S.sc o && !plainName o && notSlice ix) = true then (match hi : ixOf S.N o, r.E S ix, r.E S e with
    | some i, some dx, some d => some ⟨C.sset i dx.1 d.1, fun k X c => by
        simp only [Bool.and_eq_true, Bool.not_eq_true'] at h
        obtain ⟨⟨h1, h2⟩, h3⟩ := h
        exact sset_ok (d.2 k X c) (pe_var (by rw [c.N]; exact ixOf_ok hi) (by rw [c.sc]; exact vis_of h1) (plain_1 h2) (plain_2 h2)) (dx.2 k X c) (subA_of h3 _ _) (swaps_sub _ _) (swn_sub _) rfl⟩
    | _, _, _ => none) else none
  | _ => none
end
/-- the compiler for statements: m deep expressions -/
def compS (m : Nat) (S : SC) : Nat → (st : Stmt) → Option (DS S st)
  | 0, _ => none
  | n + 1, st => cSt (comp m) m S (compS m S n) st
def compB (m n : Nat) (S : SC) (b : List Stmt) : Option (DSs S b) := cSs S (compS m S n) b
/-- what a body computes (nothing, where it does not compile) -/
def bodyD (m n : Nat) (S : SC) (b : List Stmt) : SDen := match compB m n S b with
  | some d => d.1
  | none => fun _ => .fail
/-! ### a def -/
/-- a def's names, looked at -/
def scB (N P : List Str) (sc : Scope) : Bool :=
  decide (sc.kind = .function) && (!sc.isCoroutine && !sc.isGenerator) && decide N.Nodup && decide (N.take P.length = P) && P.all (fun x => locB sc x) && sc.names.all (fun y => !decide (y.2 = .free))
theorem scB_ok {N P : List Str} {sc : Scope} (h : scB N P sc = true) : FnScope N P sc := by
  unfold scB at h
  simp only [Bool.and_eq_true, decide_eq_true_eq, Bool.not_eq_true'] at h
  obtain ⟨⟨⟨⟨⟨h1, h2, h3⟩, h4⟩, h5⟩, h6⟩, h7⟩ := h
  refine ⟨h1, h2, h3, h4, h5, fun x hx => loc_of (List.all_eq_true.mp h6 x hx), fun y hy => ?_⟩
  have q := List.all_eq_true.mp h7 y hy
  simpa using q
section
variable {P : Program} {w : World} {K : PySem.W.Frag} {mg : Str → Option Value} {base : Heap}
/-- the facts that a def's body rests on -/
structure Rests (P : Program) (w : World) (K : PySem.W.Frag) (mg : Str → Option Value) (base : Heap) (k : Nat) (S : SC) : Prop where
  fns : ∀ x fe, (x, fe) ∈ S.G → RFn P w K mg base k x fe
  cst : ∀ x d, (x, d) ∈ S.cst → RCst K mg x d
  blt : ∀ x, x ∈ S.blt → mg x = none
theorem def_ok {x : Str} {params : Arguments} {body : List Stmt} {scope : Scope} {kws : List (Str × V)} {f : Addr} {fd : FuncData} {ps : List Str} {k m n : Nat} {S : SC} {b : SDen} {fl : List Bool} (F : FunD K x x params body scope [] kws f fd)
    (hmg : mg x = some (.ref f)) (hS : S.sc = scope) (hfn : S.fn = fun _ => true) (hsc : scB S.N ps scope = true) (hc : (compB m n S body).map (·.1) = some b) (R : Rests P w K mg base k S)
    (hb : ∀ (kV doc pm : Value) (an : Option Addr) (cdv ct : Value) (us : List Value), us.length = ps.length → bindArgs (PySem.W.fnOf x x params body scope .none kV doc pm an cdv ct) ⟨us, []⟩ = pure (ps.zip us)) :
    RFn P w K mg base (k + 1) x ⟨ps.length, C.body ps.length S.N.length b, fl⟩ := by
  have SF := scB_ok hsc
  have bd : Binds K fd ps [] := by
    obtain ⟨oc, od, dV, kV, doc, pm, an, cdv, ct, osl, rfl, _, _, hD, _⟩ := F.ex
    rcases hD with ⟨_, rfl⟩ | ⟨h, _⟩
    · exact .all (hb kV doc pm an cdv ct)
    · exact absurd rfl h
  cases hq : compB m n S body with
  | none => rw [hq] at hc; cases hc
  | some d =>
    rw [hq] at hc
    cases hc
    refine ⟨f, fd, ps, F.ok SF (spOf_len rfl) (fun cdv A outer s H vs Q E hr hsp => ?_), hmg, F.kp, bd⟩
    let X : Cx := (cxOf CX0 P w K mg base S.N x scope f cdv A outer s H E).nox
    have ctx : Ctx k S X := ⟨rfl, SF.nd, hS.symm, hfn.symm, rfl, R.fns, R.cst, R.blt, hr, rfl⟩
    exact ⟨rdS K XR0 WX0 d.1, PSs.nox (d.2 k X ctx), body_ok hsp⟩
end
end RF
set_option maxRecDepth 100000
namespace RF
open PySem PySem.Spec L2
/-! ### the head's facts -/
mutual
/-- the object u of the written part stands for the data d -/
def datB (K : PySem.W.Frag) : D → Value → Bool
  | .non, .none => true
  | .bl b, .bool c => b == c
  | .int i, .int j _ => decide (i = j)
  | .str x, .str y _ => decide (x = y)
  | .tup ds, .ref a => (match K.lookup a with
    | some ⟨.type c, _, .seq its _, _⟩ => decide (c = "tuple") && (decide (its.size ≤ sizeLine) && datLB K ds its.toList)
    | _ => false)
  | _, _ => false
def datLB (K : PySem.W.Frag) : List D → List Value → Bool
  | [], [] => true
  | d :: ds, u :: us => datB K d u && datLB K ds us
  | _, _ => false
end
mutual
theorem datB_ok {K : PySem.W.Frag} : ∀ {d : D} {u : Value}, datB K d u = true → ∃ v, RelV v u ∧ ∀ F, Rep K F v d
  | .non, u, h => by
    cases u with
    | none => exact ⟨.non, rfl, fun _ => .non⟩
    | _ => simp [datB] at h
  | .bl b, u, h => by
    cases u with
    | bool c =>
      have e : b = c := by simpa [datB] using h
      subst e
      exact ⟨.bl b, rfl, fun _ => .bl b⟩
    | _ => simp [datB] at h
  | .int i, u, h => by
    cases u with
    | int j t =>
      have e : i = j := by simpa [datB] using h
      subst e
      exact ⟨.int i, ⟨t, rfl⟩, fun _ => .int i⟩
    | _ => simp [datB] at h
  | .str x, u, h => by
    cases u with
    | str y t =>
      have e : x = y := by simpa [datB] using h
      subst e
      exact ⟨.str x, ⟨t, rfl⟩, fun _ => .str x⟩
    | _ => simp [datB] at h
  | .tup ds, u, h => by
    cases u with
    | ref a =>
      have h : (match K.lookup a with
        | some ⟨.type c, _, .seq its _, _⟩ => decide (c = "tuple") && (decide (its.size ≤ sizeLine) && datLB K ds its.toList)
        | _ => false) = true := by simpa [datB] using h
      cases q : K.lookup a with
      | none => rw [q] at h; cases h
      | some o =>
        obtain ⟨oc, od, dt, osl⟩ := o
        rw [q] at h
        cases oc with
        | type c =>
          cases dt with
          | seq its n =>
            have h : (decide (c = "tuple") && (decide (its.size ≤ sizeLine) && datLB K ds its.toList)) = true := h
            rw [Bool.and_eq_true, Bool.and_eq_true, decide_eq_true_eq, decide_eq_true_eq] at h
            obtain ⟨h1, h2, h3⟩ := h
            obtain ⟨vs, h4, h5⟩ := datLB_ok h3
            exact ⟨.ref a, rfl, fun F => .tup (.inr ⟨_, its, n, q, congrArg Value.type h1, rfl, h2, h4⟩) (h5 F)⟩
          | _ => cases h
        | _ => cases dt <;> cases h
    | _ => simp [datB] at h
  | .lst ds, u, h => by cases u <;> simp [datB] at h
  | .kls ds, u, h => by cases u <;> simp [datB] at h
  | .obj c fs, u, h => by cases u <;> simp [datB] at h
theorem datLB_ok {K : PySem.W.Frag} : ∀ {ds : List D} {us : List Value}, datLB K ds us = true → ∃ vs, Vals vs us ∧ ∀ F, RepL K F vs ds
  | [], [], _ => ⟨[], .nil, fun _ => .nil⟩
  | [], _ :: _, h => by simp [datLB] at h
  | _ :: _, [], h => by simp [datLB] at h
  | d :: ds, u :: us, h => by
    have h : (datB K d u && datLB K ds us) = true := by simpa [datLB] using h
    rw [Bool.and_eq_true] at h
    obtain ⟨v, h1, h2⟩ := datB_ok h.1
    obtain ⟨vs, h3, h4⟩ := datLB_ok h.2
    exact ⟨v :: vs, .cons h1 h3, fun F => .cons (h2 F) (h4 F)⟩
end
def cstB (K : PySem.W.Frag) (x : Str) (d : D) : Bool := match PySem.W.nsIn K mainGlobals x with
  | some (some u) => datB K d u
  | _ => false
theorem cstB_ok {K : PySem.W.Frag} {h : Heap} {mg : Str → Option Value} (X : K.In h) (G : h.Ns mainGlobals mg) {x : Str} {d : D} (c : cstB K x d = true) : RCst K mg x d := by
  unfold cstB at c
  cases e : PySem.W.nsIn K mainGlobals x with
  | none => rw [e] at c; cases c
  | some o =>
    cases o with
    | none => rw [e] at c; cases c
    | some u =>
      rw [e] at c
      obtain ⟨v, h1, h2⟩ := datB_ok c
      exact ⟨v, u, PySem.W.mg_of X G e, h1, h2⟩
/-- what a law's text is: its defs' names, the built-ins it uses, its constants -/
structure Txt where
  gl : List Str
  fr : List Str
  cs : List (Str × D)
  fn : List He.DefD
def Txt.ok (T : Txt) (K : PySem.W.Frag) : Bool := (T.gl.all fun x => (He.Fa.glo x).ok K) && ((T.fr.all fun x => (He.Fa.free x).ok K) && ((T.cs.all fun p => cstB K p.1 p.2) && T.fn.all fun d => d.ok K))
abbrev AlR : Type := Bool × List He.FnW
def obsR (T : Txt) (K : PySem.W.Frag) : AlR := (T.ok K, T.fn.map fun d => He.fnW K d.at_)
def valR (T : Txt) : AlR := (true, T.fn.map He.DefD.val)
def SaysR (T : Txt) (K : PySem.W.Frag) : Prop := obsR T K = valR T
def obsRG (n : Nat) (T : Txt) (g : Addr → Option Obj) : AlR := obsR T (He.frG g (He.asD g n))
def hookR (n : Nat) (T : Txt) : PySem.W.Hook where
  α := AlR
  obs := fun s => obsRG n T s.heap.get?
  val := fun _ => valR T
  says := fun _ h => ∃ K : PySem.W.Frag, K.In h ∧ SaysR T K
  of := fun _ _ e => ⟨_, He.frG_in, e⟩
  keeps := fun _ _ _ ⟨K, hK, c⟩ k => ⟨K, PySem.W.Frag.In.keeps hK k, c⟩
theorem obsRG_eq {n : Nat} {T : Txt} {g : Addr → Option Obj} {s : Shared} (h : ∀ a, g a = s.heap.get? a) : obsRG n T g = (hookR n T).obs s := by
  have e : g = s.heap.get? := funext h
  rw [e] <;> rfl
structure Facts (T : Txt) (K : PySem.W.Frag) (mg : Str → Option Value) : Prop where
  glo : ∀ x, memB T.gl x = true → mg x = some (.ref (He.ga K x))
  blt : ∀ x, memB T.fr x = true → mg x = none
  cst : ∀ (i : Nat) (p : Str × D), T.cs[i]? = some p → RCst K mg p.1 p.2
  fn : ∀ (i : Nat) (d : He.DefD), T.fn[i]? = some d → ∃ fd, FunD K d.name d.qual d.params d.body d.scope (d.dvs K) (d.kws K) (He.fAd K d.at_) fd
theorem facts_of {T : Txt} {K : PySem.W.Frag} {h : Heap} {mg : Str → Option Value} (X : K.In h) (G : h.Ns mainGlobals mg) (c : SaysR T K) : Facts T K mg := by
  have c1 : T.ok K = true := congrArg (fun z : AlR => z.1) c
  have c2 : T.fn.map (fun d => He.fnW K d.at_) = T.fn.map He.DefD.val := congrArg (fun z : AlR => z.2) c
  unfold Txt.ok at c1
  rw [Bool.and_eq_true, Bool.and_eq_true, Bool.and_eq_true] at c1
  obtain ⟨g1, g2, g3, g4⟩ := c1
  refine ⟨fun x hx => He.glo_ok X G (List.all_eq_true.mp g1 x (mem_of hx)), fun x hx => He.free_ok X G (List.all_eq_true.mp g2 x (mem_of hx)), fun i p hp => cstB_ok X G (List.all_eq_true.mp g3 p (List.mem_of_getElem? hp)), fun i d hd => ?_⟩
  have e2 : (T.fn.map fun d => He.fnW K d.at_)[i]? = (T.fn.map He.DefD.val)[i]? := by rw [c2]
  rw [List.getElem?_map, List.getElem?_map, hd] at e2
  exact He.DefD.funD (Option.some.inj e2) (List.all_eq_true.mp g4 d (List.mem_of_getElem? hd))
/-! ### what a def rests on, written out -/
def AllG (P : Program) (w : World) (K : PySem.W.Frag) (mg : Str → Option Value) (base : Heap) (k : Nat) : List (Str × FE) → Prop
  | [] => True
  | p :: ps => RFn P w K mg base k p.1 p.2 ∧ AllG P w K mg base k ps
def AllC (K : PySem.W.Frag) (mg : Str → Option Value) : List (Str × D) → Prop
  | [] => True
  | p :: ps => RCst K mg p.1 p.2 ∧ AllC K mg ps
section
variable {P : Program} {w : World} {K : PySem.W.Frag} {mg : Str → Option Value} {base : Heap}
theorem AllG.mem {k : Nat} : ∀ {l : List (Str × FE)}, AllG P w K mg base k l → ∀ x fe, (x, fe) ∈ l → RFn P w K mg base k x fe
  | [], _, _, _, h => by cases h
  | p :: ps, ⟨h1, h2⟩, x, fe, h => by
    rcases List.mem_cons.mp h with e | h
    · subst e; exact h1
    · exact AllG.mem h2 x fe h
theorem AllC.mem : ∀ {l : List (Str × D)}, AllC K mg l → ∀ x d, (x, d) ∈ l → RCst K mg x d
  | [], _, _, _, h => by cases h
  | p :: ps, ⟨h1, h2⟩, x, d, h => by
    rcases List.mem_cons.mp h with e | h
    · subst e; exact h1
    · exact AllC.mem h2 x d h
theorem rests {k : Nat} {S : SC} {T : Txt} (c : Facts T K mg) (g : AllG P w K mg base k S.G) (cs : AllC K mg S.cst) (b : S.blt.all (memB T.fr) = true) : Rests P w K mg base k S :=
  ⟨g.mem, cs.mem, fun x hx => c.blt x (List.all_eq_true.mp b x hx)⟩
/-- the def's function object with its promise -/
theorem def_fn {x : Str} {params : Arguments} {body : List Stmt} {scope : Scope} {kws : List (Str × V)} {f : Addr} {fd : FuncData} {ps : List Str} {k m n : Nat} {S : SC} {b : SDen} (F : FunD K x x params body scope [] kws f fd)
    (hS : S.sc = scope) (hfn : S.fn = fun _ => true) (hsc : scB S.N ps scope = true) (hc : (compB m n S body).map (·.1) = some b) (R : Rests P w K mg base k S) :
    FnOk P w K mg base CX0 (k + 1) f fd ps (spOf K ps.length (C.body ps.length S.N.length b)) := by
  have SF := scB_ok hsc
  cases hq : compB m n S body with
  | none => rw [hq] at hc; cases hc
  | some d =>
    rw [hq] at hc
    cases hc
    refine F.ok SF (spOf_len rfl) fun cdv A outer s H vs Q E hr hsp => ?_
    let X : Cx := (cxOf CX0 P w K mg base S.N x scope f cdv A outer s H E).nox
    have ctx : Ctx k S X := ⟨rfl, SF.nd, hS.symm, hfn.symm, rfl, R.fns, R.cst, R.blt, hr, rfl⟩
    exact ⟨rdS K XR0 WX0 d.1, PSs.nox (d.2 k X ctx), body_ok hsp⟩
end
section
variable {P : Program} {w : World} {K : PySem.W.Frag} {mg : Str → Option Value} {base : Heap}
/-- a def that promises nothing -/
theorem def_none {x : Str} {params : Arguments} {body : List Stmt} {scope : Scope} {kws : List (Str × V)} {f : Addr} {fd : FuncData} {ps : List Str} {k : Nat} {fl : List Bool} (F : FunD K x x params body scope [] kws f fd) (hmg : mg x = some (.ref f))
    (hb : ∀ (kV doc pm : Value) (an : Option Addr) (cdv ct : Value) (us : List Value), us.length = ps.length → bindArgs (PySem.W.fnOf x x params body scope .none kV doc pm an cdv ct) ⟨us, []⟩ = pure (ps.zip us)) : RFn P w K mg base k x ⟨ps.length, fun _ => .fail, fl⟩ := by
  have bd : Binds K fd ps [] := by
    obtain ⟨oc, od, dV, kV, doc, pm, an, cdv, ct, osl, rfl, _, _, hD, _⟩ := F.ex
    rcases hD with ⟨_, rfl⟩ | ⟨h, _⟩
    · exact .all (hb kV doc pm an cdv ct)
    · exact absurd rfl h
  exact ⟨f, fd, ps, ⟨spOf_len rfl, fun A outer s H args us vs Q E _ _ _ _ h => by obtain ⟨_, _, _, _, _, h⟩ := h; exact h.elim⟩, hmg, F.kp, bd⟩
end
/-- the law's start: the script stands before the call -/
theorem law_start {K : PySem.W.Frag} {H : Hp} {a : Addr} {ns : List Int} {g : List SV → CRes} {fin : Sl} (hS : SqL K H a (ns.map V.int)) (h : g [.val (.kls (ns.map D.int))] = .ok (.v (.bl true)) fin) : spOf K 1 g [.ref a] H (fun v _ => v = .bl true) fun _ _ _ => False := by
  refine ⟨H, [.val (.kls (ns.map D.int))], rfl, ⟨Same.refl H, rfl, fun i x e => ?_, fun i j b h1 h2 => ?_⟩, rfl, ?_⟩
  · cases i with
    | zero => cases e; exact ⟨.ref a, rfl, .kls hS (RepL.of_ints ns)⟩
    | succ i => simp at e
  · obtain ⟨x, c, e1, e2, e3⟩ := h1
    cases i with
    | zero => cases e1; cases e2
    | succ i => simp at e1
  · rw [h]
    intro F' H' v st rv
    have rv : Rep K F' v (.bl true) := rv
    cases rv
    rfl
end RF
set_option maxRecDepth 100000
/-! ### how denotations are worked out: equations for simp, rules for loops -/
namespace RF
@[simp] theorem noneD_non : noneD .non = true := rfl
@[simp] theorem noneD_bl (b : Bool) : noneD (.bl b) = false := rfl
@[simp] theorem noneD_int (b : Int) : noneD (.int b) = false := rfl
@[simp] theorem noneD_str (b : PySem.Str) : noneD (.str b) = false := rfl
@[simp] theorem noneD_tup (b : List D) : noneD (.tup b) = false := rfl
@[simp] theorem noneD_lst (b : List D) : noneD (.lst b) = false := rfl
@[simp] theorem atD_0 (a : D) (l : List D) : atD (a :: l) 0 = some a := by
  unfold atD ixD
  simp
@[simp] theorem atD_1 (a b : D) (l : List D) : atD (a :: b :: l) 1 = some b := by
  unfold atD ixD
  have h : (1 : Int) < ((a :: b :: l).length : Nat) := by simp; omega
  rw [if_pos (by decide), if_pos h]
  rfl
@[simp] theorem atD_2 (a b c : D) (l : List D) : atD (a :: b :: c :: l) 2 = some c := by
  unfold atD ixD
  have h : (2 : Int) < ((a :: b :: c :: l).length : Nat) := by simp; omega
  rw [if_pos (by decide), if_pos h]
  rfl
@[simp] theorem atD_last (l : List D) (x : D) : atD (l ++ [x]) (-1) = some x := by
  unfold atD ixD
  rw [if_neg (by decide)]
  have h : -(((l ++ [x]).length : Nat) : Int) ≤ -1 := by simp; omega
  rw [if_pos h]
  have e : (-1 + (((l ++ [x]).length : Nat) : Int)).toNat = l.length := by simp; omega
  rw [e]
  simp
@[simp] theorem atD_last1 (x : D) : atD [x] (-1) = some x := atD_last [] x
@[simp] theorem atD_last2 (x y : D) : atD [x, y] (-1) = some y := atD_last [x] y
theorem atD_nat (l : List D) (i : Nat) : atD l (i : Int) = l[i]? := by
  unfold atD ixD
  rw [if_pos (by omega)]
  by_cases h : i < l.length
  · rw [if_pos (by omega)]
    simp
  · rw [if_neg (by omega)]
    simp; omega
end RF
namespace RF.C
open PySem PySem.Spec L2 RF
@[simp] theorem ev_const (d : D) (sl : Sl) : C.const d sl = (.ok (.v d) sl) := rfl
@[simp] theorem ev_var (i : Nat) (sl : Sl) : C.var i sl = (match sl[i]? with
  | some (some (.val d)) => .ok (.v d) sl
  | some (some (.bval d)) => .ok (.v d) sl
  | some (some (.own _)) => .ok (.s i) sl
  | some (some (.bref _)) => .ok (.s i) sl
  | _ => .fail) := rfl
@[simp] theorem ev_bin (f : D → D → Option RV) (a b : Den) (sl : Sl) : C.bin f a b sl = (match a sl with
  | .ok r1 sl1 => (match b sl1 with
    | .ok r2 sl2 => (match rd (opd r1) sl2, rd (opd r2) sl2 with
      | some d, some e => ofO (f d e) sl2
      | _, _ => .fail)
    | .exc x s => .exc x s
    | .fail => .fail)
  | .exc x s => .exc x s
  | .fail => .fail) := rfl
@[simp] theorem ev_un (f : D → Option RV) (a : Den) (sl : Sl) : C.un f a sl = (match a sl with
  | .ok r1 sl1 => (match rd (opd r1) sl1 with
    | some d => ofO (f d) sl1
    | none => .fail)
  | .exc x s => .exc x s
  | .fail => .fail) := rfl
@[simp] theorem ev_anil (sl : Sl) : C.anil  sl = (.ok [] sl) := rfl
@[simp] theorem ev_acons (a : Den) (b : ADen) (sl : Sl) : C.acons a b sl = (match a sl with
  | .ok r sl1 => (match b sl1 with
    | .ok rs sl2 => .ok (opd r :: rs) sl2
    | .exc x s => .exc x s
    | .fail => .fail)
  | .exc x s => .exc x s
  | .fail => .fail) := rfl
@[simp] theorem ev_call (f : List D → Option RV) (a : ADen) (sl : Sl) : C.call f a sl = (match a sl with
  | .ok rs sl1 => (match rds rs sl1 with
    | some ds => ofO (f ds) sl1
    | none => .fail)
  | .exc x s => .exc x s
  | .fail => .fail) := rfl
@[simp] theorem ev_tup (a : ADen) (sl : Sl) : C.tup a sl = (match a sl with
  | .ok rs sl1 => (match frzs rs sl1 with
    | some (ds, sl2) => if ds.length ≤ 1000 then .ok (.v (.tup ds)) sl2 else .fail
    | none => .fail)
  | .exc x s => .exc x s
  | .fail => .fail) := rfl
@[simp] theorem ev_lst (a : ADen) (sl : Sl) : C.lst a sl = (match a sl with
  | .ok rs sl1 => (match frzs rs sl1 with
    | some (ds, sl2) => if ds.length ≤ 1000 then .ok (.n (.lst ds)) sl2 else .fail
    | none => .fail)
  | .exc x s => .exc x s
  | .fail => .fail) := rfl
@[simp] theorem ev_tv (a : Den) (sl : Sl) : C.tv a sl = (match a sl with
  | .ok (.v (.bl b)) sl1 => .ok b sl1
  | .exc x s => .exc x s
  | _ => .fail) := rfl
@[simp] theorem ev_tru (a : Den) (sl : Sl) : C.tru a sl = (match a sl with
  | .ok r sl1 => (match (rd (opd r) sl1).bind truD with
    | some b => .ok b sl1
    | none => .fail)
  | .exc x s => .exc x s
  | .fail => .fail) := rfl
@[simp] theorem ev_tand (a b : TDen) (sl : Sl) : C.tand a b sl = (match a sl with
  | .ok c sl1 => if c = true then b sl1 else .ok false sl1
  | .exc x s => .exc x s
  | .fail => .fail) := rfl
@[simp] theorem ev_tor (a b : TDen) (sl : Sl) : C.tor a b sl = (match a sl with
  | .ok c sl1 => if c = true then .ok true sl1 else b sl1
  | .exc x s => .exc x s
  | .fail => .fail) := rfl
@[simp] theorem ev_tnot (a : TDen) (sl : Sl) : C.tnot a sl = (match a sl with
  | .ok c sl1 => .ok (!c) sl1
  | .exc x s => .exc x s
  | .fail => .fail) := rfl
@[simp] theorem ev_vnot (a : Den) (sl : Sl) : C.vnot a sl = (match a sl with
  | .ok r sl1 => (match (rd (opd r) sl1).bind truD with
    | some b => .ok (.v (.bl (!b))) sl1
    | none => .fail)
  | .exc x s => .exc x s
  | .fail => .fail) := rfl
@[simp] theorem ev_vand (a b : Den) (sl : Sl) : C.vand a b sl = (match a sl with
  | .ok r sl1 => (match (rd r sl1).bind truD with
    | some k => if k = true then b sl1 else .ok r sl1
    | none => .fail)
  | .exc x s => .exc x s
  | .fail => .fail) := rfl
@[simp] theorem ev_vor (a b : Den) (sl : Sl) : C.vor a b sl = (match a sl with
  | .ok r sl1 => (match (rd r sl1).bind truD with
    | some k => if k = true then .ok r sl1 else b sl1
    | none => .fail)
  | .exc x s => .exc x s
  | .fail => .fail) := rfl
@[simp] theorem ev_ite (t : TDen) (a b : Den) (sl : Sl) : C.ite t a b sl = (match t sl with
  | .ok c sl1 => if c = true then a sl1 else b sl1
  | .exc x s => .exc x s
  | .fail => .fail) := rfl
@[simp] theorem ev_chain (f g : D → D → Option RV) (a b c : Den) (sl : Sl) : C.chain f g a b c sl = (match a sl with
  | .ok r1 sl1 => (match b sl1 with
    | .ok r2 sl2 => (match rd (opd r1) sl2, rd (opd r2) sl2 with
      | some d, some e => (match f d e with
        | some (.v (.bl true)) => (match c sl2 with
          | .ok r3 sl3 => (match rd (opd r2) sl3, rd (opd r3) sl3 with
            | some e', some h => ofO (g e' h) sl3
            | _, _ => .fail)
          | .exc x s => .exc x s
          | .fail => .fail)
        | some (.v (.bl false)) => .ok (.v (.bl false)) sl2
        | _ => .fail)
      | _, _ => .fail)
    | .exc x s => .exc x s
    | .fail => .fail)
  | .exc x s => .exc x s
  | .fail => .fail) := rfl
@[simp] theorem ev_set (i : Nat) (e : Den) (sl : Sl) : C.set i e sl = (match e sl with
  | .ok r sl1 => (match settle r sl1 with
    | some (r', sl2) => (match put i r' sl2 with
      | some sl3 => .nx sl3
      | none => .fail)
    | none => .fail)
  | .exc x s => .exc x s
  | .fail => .fail) := rfl
@[simp] theorem ev_drop (e : Den) (sl : Sl) : C.drop e sl = (match e sl with
  | .ok _ sl1 => .nx sl1
  | .exc x s => .exc x s
  | .fail => .fail) := rfl
@[simp] theorem ev_ret (e : Den) (sl : Sl) : C.ret e sl = (match e sl with
  | .ok r sl1 => (match r with
    | .s i => (match sl1[i]? with
      | some (some (.own c)) => .rt (.n c) (sl1.set i none)
      | _ => (match frz (.s i) sl1 with
        | some (d, sl2) => .rt (.v d) sl2
        | none => .fail))
    | r => .rt r sl1)
  | .exc x s => .exc x s
  | .fail => .fail) := rfl
@[simp] theorem ev_retN (sl : Sl) : C.retN  sl = (.rt (.v .non) sl) := rfl
@[simp] theorem ev_pass (sl : Sl) : C.pass  sl = (.nx sl) := rfl
@[simp] theorem ev_brk (sl : Sl) : C.brk  sl = (.bk sl) := rfl
@[simp] theorem ev_cnt (sl : Sl) : C.cnt  sl = (.ct sl) := rfl
@[simp] theorem ev_seq (a b : SDen) (sl : Sl) : C.seq a b sl = (match a sl with
  | .nx sl1 => b sl1
  | r => r) := rfl
@[simp] theorem ev_ifS (t : TDen) (a b : SDen) (sl : Sl) : C.ifS t a b sl = (match t sl with
  | .ok c sl1 => if c = true then a sl1 else b sl1
  | .exc x s => .exc x s
  | .fail => .fail) := rfl
theorem ev_forS (g : GDen) (it : IDen) (b : SDen) (sl : Sl) : C.forS g it b sl = (match it sl with
  | .ok ds sl1 => loop g b ds sl1
  | .exc x s => .exc x s
  | .fail => .fail) := rfl
@[simp] theorem ev_asg (g : GDen) (e : Den) (sl : Sl) : C.asg g e sl = (match e sl with
  | .ok r sl1 => (match frz r sl1 with
    | some (d, sl2) => (match g.run d sl2 with
      | some sl3 => .nx sl3
      | none => .fail)
    | none => .fail)
  | .exc x s => .exc x s
  | .fail => .fail) := rfl
@[simp] theorem ev_sset (i : Nat) (x : Den) (e : Den) (sl : Sl) : C.sset i x e sl = (match e sl with
  | .ok r sl1 => (match frz r sl1 with
    | some (d, sl2) => if open? sl2 i = true then (match x sl2 with
      | .ok r2 sl3 => sset2 i d r2 sl3
      | .exc x s => .exc x s
      | .fail => .fail) else .fail
    | none => .fail)
  | .exc x s => .exc x s
  | .fail => .fail) := rfl
@[simp] theorem ev_racons (a : Den) (b : ADen) (sl : Sl) : C.racons a b sl = (match a sl with
  | .ok r sl1 => (match b sl1 with
    | .ok rs sl2 => .ok (r :: rs) sl2
    | .exc x s => .exc x s
    | .fail => .fail)
  | .exc x s => .exc x s
  | .fail => .fail) := rfl
@[simp] theorem ev_par (is : List Nat) (a : ADen) (sl : Sl) : C.par is a sl = (match a sl with
  | .ok rs sl1 => (match settles rs sl1 with
    | some (rs', sl2) => (match puts is rs' sl2 with
      | some sl3 => .nx sl3
      | none => .fail)
    | none => .fail)
  | .exc x s => .exc x s
  | .fail => .fail) := rfl
@[simp] theorem ev_iter (e : Den) (sl : Sl) : C.iter e sl = (match e sl with
  | .ok r sl1 => (match frz r sl1 with
    | some (.lst ds, sl2) => .ok ds sl2
    | some (.tup ds, sl2) => .ok ds sl2
    | some (.str s, sl2) => .ok (charsD s) sl2
    | _ => .fail)
  | .exc x s => .exc x s
  | .fail => .fail) := rfl
@[simp] theorem ev_ucall (f : List SV → CRes) (a : ADen) (sl : Sl) : C.ucall f a sl = (match a sl with
  | .ok rs sl1 => if distinct rs = true then (match argsSV rs sl1 with
    | some xs => (match f xs with
      | .ok (.v d) fin => .ok (.v d) (back rs fin sl1)
      | .ok (.n c) fin => .ok (.n c) (back rs fin sl1)
      | _ => .fail)
    | none => .fail) else .fail
  | .exc x s => .exc x s
  | .fail => .fail) := rfl
@[simp] theorem ev_tyes (sl : Sl) : C.tyes  sl = (.ok true sl) := rfl
theorem ev_lc (it : IDen) (g : GDen) (t : TDen) (e : Den) (vs : List Nat) (sl : Sl) : C.lc it g t e vs sl = (match it sl with
  | .ok ds sl1 => (match lcrun g t e vs ds (wipeS sl1 vs) with
    | some (ys, sl2) => if ys.length ≤ 1000000 then .ok (.n (.lst ys)) (backS sl1 (wipeS sl2 vs) vs) else .fail
    | none => .fail)
  | .exc x s => .exc x s
  | .fail => .fail) := rfl
@[simp] theorem ev_pnone (sl : Sl) : C.pnone  sl = (.ok none sl) := rfl
@[simp] theorem ev_psome (d : Den) (sl : Sl) : C.psome d sl = (match d sl with
  | .ok (.v (.int i)) sl1 => .ok (some i) sl1
  | .exc x s => .exc x s
  | _ => .fail) := rfl
@[simp] theorem ev_slice (a : Den) (l h : PDen) (sl : Sl) : C.slice a l h sl = (match a sl with
  | .ok r1 sl1 => (match l sl1 with
    | .ok lo sl2 => (match h sl2 with
      | .ok hi sl3 => (match rd (opd r1) sl3 with
        | some d => ofO (O.slice lo hi d) sl3
        | none => .fail)
      | .exc x s => .exc x s
      | .fail => .fail)
    | .exc x s => .exc x s
    | .fail => .fail)
  | .exc x s => .exc x s
  | .fail => .fail) := rfl
@[simp] theorem ev_listI (it : IDen) (sl : Sl) : C.listI it sl = (match it sl with
  | .ok ds sl1 => if ds.length ≤ 16777216 then .ok (.n (.lst ds)) sl1 else .fail
  | .exc x s => .exc x s
  | .fail => .fail) := rfl
@[simp] theorem ev_mcall (m : Cell → List D → Option (Cell × D)) (i : Nat) (a : ADen) (sl : Sl) : C.mcall m i a sl = (if open? sl i = true then (match a sl with
  | .ok rs sl1 => mcall2 m i rs sl1
  | .exc x s => .exc x s
  | .fail => .fail) else .fail) := rfl
@[simp] theorem ev_iterA (f : List D → Option (List D)) (a : ADen) (sl : Sl) : C.iterA f a sl = (match a sl with
  | .ok rs sl1 => (match frzs rs sl1 with
    | some (ds, sl2) => (match f ds with
      | some es => .ok es sl2
      | none => .fail)
    | none => .fail)
  | .exc x s => .exc x s
  | .fail => .fail) := rfl
@[simp] theorem ev_ucallM (fl : List Bool) (f : List SV → CRes) (a : ADen) (sl : Sl) : C.ucallM fl f a sl = (match a sl with
  | .ok rs sl0 => (match frzM fl rs sl0 with
    | some (rs', sl1) => if distinct rs' = true then (match argsSV rs' sl1 with
      | some xs => (match f xs with
        | .ok (.v d) fin => .ok (.v d) (back rs' fin sl1)
        | .ok (.n c) fin => .ok (.n c) (back rs' fin sl1)
        | _ => .fail)
      | none => .fail) else .fail
    | none => .fail)
  | .exc x s => .exc x s
  | .fail => .fail) := rfl
@[simp] theorem ev_gname (i : Nat) (d : D) (sl : Sl) : (C.gname i).run d sl = put i (.v d) sl := rfl
@[simp] theorem ev_gnil (sl : Sl) : C.gnil.run [] sl = some sl := rfl
@[simp] theorem ev_gcons (g : GDen) (h : C.GsDen) (d : D) (ds : List D) (sl : Sl) : (C.gcons g h).run (d :: ds) sl = (match g.run d sl with
  | some sl1 => h.run ds sl1
  | none => none) := rfl
@[simp] theorem ev_gtup (n : Nat) (h : C.GsDen) (ds : List D) (sl : Sl) : (C.gtup n h).run (.tup ds) sl = if ds.length = n then h.run ds sl else none := rfl
@[simp] theorem ev_glst (n : Nat) (h : C.GsDen) (ds : List D) (sl : Sl) : (C.gtup n h).run (.lst ds) sl = if ds.length = n then h.run ds sl else none := rfl
@[simp] theorem loop_nil (g : GDen) (b : SDen) (sl : Sl) : C.loop g b [] sl = .nx sl := rfl
theorem loop_cons (g : GDen) (b : SDen) (d : D) (ds : List D) (sl : Sl) : C.loop g b (d :: ds) sl = (match g.run d sl with
    | none => .fail
    | some sl1 => (match b sl1 with
      | .nx sl2 => loop g b ds sl2
      | .ct sl2 => loop g b ds sl2
      | .bk sl2 => .nx sl2
      | r => r)) := rfl
@[simp] theorem lcrun_nil (g : GDen) (t : TDen) (e : Den) (vs : List Nat) (sl : Sl) : C.lcrun g t e vs [] sl = some ([], sl) := rfl
theorem lcrun_cons (g : GDen) (t : TDen) (e : Den) (vs : List Nat) (d : D) (ds : List D) (sl : Sl) : C.lcrun g t e vs (d :: ds) sl = (match g.run d (wipeS sl vs) with
    | none => none
    | some sl1 => (match t sl1 with
      | .ok true sl2 => (match e sl2 with
        | .ok r sl3 => (match frz r sl3 with
          | some (y, sl4) => (match lcrun g t e vs ds sl4 with
            | some (ys, sl5) => some (y :: ys, sl5)
            | none => none)
          | none => none)
        | _ => none)
      | .ok false sl2 => lcrun g t e vs ds sl2
      | _ => none)) := rfl
/-- a loop that goes on, by an invariant -/
theorem loop_inv {g : GDen} {b : SDen} (Pv : Nat → Sl → Prop) : ∀ (ds : List D) (k : Nat) (sl : Sl), Pv k sl → (∀ (i : Nat) (d : D) (sl : Sl), ds[i]? = some d → Pv (k + i) sl → ∃ sl1 sl2, g.run d sl = some sl1 ∧ (b sl1 = .nx sl2 ∨ b sl1 = .ct sl2) ∧ Pv (k + i + 1) sl2) →
    ∃ sl', C.loop g b ds sl = .nx sl' ∧ Pv (k + ds.length) sl'
  | [], k, sl, h, _ => ⟨sl, rfl, h⟩
  | d :: ds, k, sl, h, st => by
    obtain ⟨sl1, sl2, e1, e2, h2⟩ := st 0 d sl rfl h
    obtain ⟨sl', e3, h3⟩ := loop_inv Pv ds (k + 1) sl2 h2 fun i d' sl3 hi hp => by
      have := st (i + 1) d' sl3 (by simpa using hi) (by rw [show k + (i + 1) = k + 1 + i by omega]; exact hp)
      rw [show k + (i + 1) + 1 = k + 1 + i + 1 by omega] at this
      exact this
    refine ⟨sl', ?_, by rw [List.length_cons, show k + (ds.length + 1) = k + 1 + ds.length by omega]; exact h3⟩
    rw [loop_cons, e1]
    rcases e2 with e2 | e2 <;> simp only [e2] <;> exact e3
theorem wipe_idem (sl : Sl) (vs : List Nat) : wipeS (wipeS sl vs) vs = wipeS sl vs := wipeS_wipe sl vs
theorem back_same {sl sl2 : Sl} {vs : List Nat} (h : wipeS sl2 vs = wipeS sl vs) : backS sl (wipeS sl2 vs) vs = sl := by
  apply List.ext_getElem?
  intro i
  have hl : sl.length = (wipeS sl2 vs).length := by rw [h, wipeS_len]
  rw [backS_at hl]
  by_cases hm : i ∈ vs
  · rw [if_pos hm]
  · rw [if_neg hm, h, wipeS_at, if_neg hm]
/-- a comprehension that changes nothing else: its turns one by one -/
theorem lcrun_of {g : GDen} {t : TDen} {e : Den} {vs : List Nat} {sl : Sl} (p : D → Bool) (f : D → D) : ∀ (ds : List D) (slc : Sl), wipeS slc vs = wipeS sl vs →
    (∀ d ∈ ds, ∃ sl2, g.run d (wipeS sl vs) = some sl2 ∧ t sl2 = .ok (p d) sl2 ∧ wipeS sl2 vs = wipeS sl vs ∧ (p d = true → ∃ r sl3 sl4, e sl2 = .ok r sl3 ∧ frz r sl3 = some (f d, sl4) ∧ wipeS sl4 vs = wipeS sl vs)) →
    ∃ sl', C.lcrun g t e vs ds slc = some ((ds.filter p).map f, sl') ∧ wipeS sl' vs = wipeS sl vs
  | [], slc, hw, _ => ⟨slc, rfl, hw⟩
  | d :: ds, slc, hw, h => by
    obtain ⟨sl2, e1, e2, e3, e4⟩ := h d (by simp)
    rw [lcrun_cons, hw, e1]
    simp only
    rw [e2]
    cases hp : p d with
    | false =>
      rw [List.filter_cons_of_neg (by simp [hp])]
      exact lcrun_of p f ds sl2 e3 fun d' hd => h d' (by simp [hd])
    | true =>
      obtain ⟨r, sl3, sl4, q1, q2, q3⟩ := e4 hp
      obtain ⟨sl', k1, k2⟩ := lcrun_of p f ds sl4 q3 fun d' hd => h d' (by simp [hd])
      refine ⟨sl', ?_, k2⟩
      simp only [q1, q2, k1]
      rw [List.filter_cons_of_pos hp, List.map_cons]
theorem lc_of {it : IDen} {g : GDen} {t : TDen} {e : Den} {vs : List Nat} {sl sl1 : Sl} {ds : List D} (p : D → Bool) (f : D → D) (hit : it sl = .ok ds sl1) (hl : ds.length ≤ 1000000)
    (h : ∀ d ∈ ds, ∃ sl2, g.run d (wipeS sl1 vs) = some sl2 ∧ t sl2 = .ok (p d) sl2 ∧ wipeS sl2 vs = wipeS sl1 vs ∧ (p d = true → ∃ r sl3 sl4, e sl2 = .ok r sl3 ∧ frz r sl3 = some (f d, sl4) ∧ wipeS sl4 vs = wipeS sl1 vs)) :
    C.lc it g t e vs sl = .ok (.n (.lst ((ds.filter p).map f))) sl1 := by
  obtain ⟨sl', k1, k2⟩ := lcrun_of p f ds (wipeS sl1 vs) (wipe_idem sl1 vs) h
  unfold C.lc
  rw [hit]
  simp only
  rw [k1]
  simp only
  rw [if_pos, back_same k2]
  rw [List.length_map]
  exact Nat.le_trans (List.length_filter_le _ _) hl
/-- without a test -/
theorem lc_map {it : IDen} {g : GDen} {e : Den} {vs : List Nat} {sl sl1 : Sl} {ds : List D} (f : D → D) (hit : it sl = .ok ds sl1) (hl : ds.length ≤ 1000000)
    (h : ∀ d ∈ ds, ∃ sl2 r sl3 sl4, g.run d (wipeS sl1 vs) = some sl2 ∧ wipeS sl2 vs = wipeS sl1 vs ∧ e sl2 = .ok r sl3 ∧ frz r sl3 = some (f d, sl4) ∧ wipeS sl4 vs = wipeS sl1 vs) :
    C.lc it g C.tyes e vs sl = .ok (.n (.lst (ds.map f))) sl1 := by
  have := lc_of (t := C.tyes) (fun _ => true) f hit hl fun d hd => by
    obtain ⟨sl2, r, sl3, sl4, h1, h2, h3, h4, h5⟩ := h d hd
    exact ⟨sl2, h1, rfl, h2, fun _ => ⟨r, sl3, sl4, h3, h4, h5⟩⟩
  rwa [List.filter_eq_self.mpr (fun _ _ => rfl)] at this
end RF.C
set_option maxRecDepth 100000
set_option maxHeartbeats 1000000
namespace RF.L
abbrev S2 := Option Int × Option Int
inductive Wd where
  | add | floor | cap
  deriving DecidableEq
structure Tri where
  w : Wd
  l : Int
  h : Int
abbrev Ev := Wd × Int
abbrev Rd := Int × Int
def maxO : Option Int → Option Int → Option Int
  | none, b => b
  | a, none => a
  | some a, some b => some (max a b)
def minO : Option Int → Option Int → Option Int
  | none, b => b
  | a, none => a
  | some a, some b => some (min a b)
def okS : S2 → Bool
  | (some a, some b) => decide (a ≤ b)
  | _ => true
def comS (x y : S2) : S2 := (maxO x.1 y.1, minO x.2 y.2)
def comT : Option S2 → Option S2 → Option S2
  | some x, some y => if okS (comS x y) = true then some (comS x y) else none
  | _, _ => none
theorem if_max (a c : Int) : (if c > a then c else a) = max a c := by omega
theorem if_min (b d : Int) : (if d < b then d else b) = min b d := by omega
def turnS (s : S2) : S2 := (s.2.map (- ·), s.1.map (- ·))
def turnT (t : Tri) : Tri := ⟨.floor, -t.h, -t.l⟩
def aheadF (s : S2) (t : Tri) : S2 := (some (match s.1 with | none => t.l | some a => max a t.l), s.2.map (max · t.h))
def aheadT (s : S2) (t : Tri) : S2 := match t.w with
  | .add => (s.1.map (· + t.l), s.2.map (· + t.h))
  | .floor => aheadF s t
  | .cap => turnS (aheadF (turnS s) (turnT t))
def backF (s : S2) (t : Tri) : Option S2 :=
  if (match s.2 with | some b => decide (b < t.l) | none => false) = true then none
  else if (match s.1 with | none => true | some a => decide (a ≤ t.h)) = true then some (none, s.2) else some s
def backS2 (s : S2) (t : Tri) : Option S2 := match t.w with
  | .add => some (s.1.map (· + -t.h), s.2.map (· + -t.l))
  | .floor => backF s t
  | .cap => (backF (turnS s) (turnT t)).map turnS
def backT (x : Option S2) (t : Tri) : Option S2 := x.bind fun s => backS2 s t
def readStep (m : Int) (f : Option S2) (r : Rd) : Option S2 := if r.1 = m then comT f (some (some r.2, some r.2)) else f
def readT (rs : List Rd) (m : Int) : Option S2 := rs.foldl (readStep m) (some (none, none))
def onT (rs : List Rd) : Nat → Option S2 → List Tri → List (Option S2)
  | _, cur, [] => [cur]
  | m, cur, t :: ts => cur :: onT rs (m + 1) (comT (cur.map (aheadT · t)) (readT rs ((m : Int) + 1))) ts
def waysOn (ts : List Tri) (s : S2) (rs : List Rd) : List (Option S2) := onT rs 0 (comT (some s) (readT rs 0)) ts
def bk0 (rs : List Rd) : Nat → List Tri → Option S2
  | m, [] => readT rs m
  | m, t :: ts => comT (backT (bk0 rs (m + 1) ts) t) (readT rs m)
def bkTail (rs : List Rd) : Nat → List Tri → List (Option S2)
  | _, [] => []
  | m, _ :: ts => bk0 rs (m + 1) ts :: bkTail rs (m + 1) ts
def bkT (rs : List Rd) (m : Nat) (ts : List Tri) : List (Option S2) := bk0 rs m ts :: bkTail rs m ts
theorem bkT_cons (rs : List Rd) (m : Nat) (t : Tri) (ts : List Tri) : bkT rs m (t :: ts) = comT (backT (bk0 rs (m + 1) ts) t) (readT rs m) :: bkT rs (m + 1) ts := rfl
theorem bkT_len (rs : List Rd) : ∀ (ts : List Tri) (m : Nat), (bkT rs m ts).length = ts.length + 1
  | [], m => rfl
  | t :: ts, m => by rw [bkT_cons, List.length_cons, bkT_len rs ts (m + 1)]; rfl
def waysBack (ts : List Tri) (rs : List Rd) : List (Option S2) := bkT rs 0 ts
def levL (ts : List Tri) (s : S2) (rs : List Rd) : List (Option S2) := ((waysOn ts s rs).zip (waysBack ts rs)).map fun p => comT p.1 p.2
theorem onT_len (rs : List Rd) : ∀ (ts : List Tri) (m : Nat) (c : Option S2), (onT rs m c ts).length = ts.length + 1
  | [], _, _ => rfl
  | _ :: ts, m, c => congrArg (· + 1) (onT_len rs ts (m + 1) _)
theorem levL_len (ts : List Tri) (s : S2) (rs : List Rd) : (levL ts s rs).length = ts.length + 1 := by
  unfold levL waysOn waysBack
  rw [List.length_map, List.length_zip, onT_len, bkT_len, Nat.min_self]
def someT (s : S2) : Int := match s.1 with
  | some a => a
  | none => s.2.getD 0
def subO : Option Int → Option Int → Option Int
  | some a, some b => some (a - b)
  | _, _ => none
def numF (t : Tri) (here there : S2) : Option S2 := comT (some (some t.l, some t.h)) (some (if (comT (some here) (some there)).isNone = true then there else (none, there.2)))
def numT (t : Tri) (here there : S2) : Option S2 := match t.w with
  | .add => comT (some (some t.l, some t.h)) (some (subO there.1 here.2, subO there.2 here.1))
  | .floor => numF t here there
  | .cap => (numF (turnT t) (turnS here) (turnS there)).map turnS
def numAt (ts : List Tri) (s : S2) (rs : List Rd) (p : Tri × Nat) : Option S2 := match ((waysOn ts s rs)[p.2]?).join, ((waysBack ts rs)[p.2 + 1]?).join with
  | some h, some th => numT p.1 h th
  | _, _ => none
def onE (ts : List Tri) (s : S2) (rs : List Rd) : Option S2 := ((waysOn ts s rs).getLast?).join
def bkE (ts : List Tri) (rs : List Rd) : Option S2 := ((waysBack ts rs).getLast?).join
def behT (x : Int) (e : Ev) : Int := match e.1 with
  | .add => x + e.2
  | .floor => max x e.2
  | .cap => min x e.2
def levT (x : Int) : List Ev → List Int
  | [] => [x]
  | e :: es => x :: levT (behT x e) es
def stB (s : S2) : Bool := s.1.isSome && decide (s.1 = s.2)
def settledT (ls : List S2) : List Nat := (ls.zipIdx.filter fun p => stB p.1).map (·.2)
def goT (bk : List (Option S2)) : Nat → Int → List Tri → Option (List Ev)
  | _, _, [] => some []
  | k, x, t :: ts => match (bk[k + 1]?).join with
    | some th => (match numT t (some x, some x) th with
      | some y => (goT bk (k + 1) (behT x (t.w, someT y)) ts).map ((t.w, someT y) :: ·)
      | none => none)
    | none => none
def wrongB (ts : List Tri) (s : S2) (rs : List Rd) (m : Int) : Bool := (levL ts s (rs.filter fun r => decide (r.1 ≤ m))).any (·.isNone)
/-- the readings without the one at i -/
def dropAt (rs : List Rd) (i : Nat) : List Rd := (rs.zipIdx.filter fun p => !decide (p.2 = i)).map (·.1)
/-- is the reading at place i needless? -/
def ndB (ts : List Tri) (s : S2) (rs : List Rd) (p : Rd × Nat) : Bool := match (levL ts s (dropAt rs p.2))[p.1.1.toNat]? with
  | some (some x) => decide (x = (some p.1.2, some p.1.2))
  | _ => false
def ndT (ts : List Tri) (s : S2) (rs : List Rd) : List Nat := (rs.zipIdx.filter (ndB ts s rs)).map (·.2)
def fitB (p : Tri × Ev) : Bool := decide (p.1.w = p.2.1) && (decide (p.1.l ≤ p.2.2) && decide (p.2.2 ≤ p.1.h))
def fgT (ts : List Tri) (es : List Ev) : Bool := decide (ts.length = es.length) && (ts.zip es).all fitB
end RF.L
set_option maxRecDepth 100000
set_option maxHeartbeats 1000000
namespace RF.L
/-! ### stretches as sets -/
def inS (s : S2) (x : Int) : Prop := (∀ a, s.1 = some a → a ≤ x) ∧ (∀ b, s.2 = some b → x ≤ b)
def inO (o : Option S2) (x : Int) : Prop := ∃ s, o = some s ∧ inS s x
def goodO (o : Option S2) : Prop := ∀ s, o = some s → okS s = true
@[simp] theorem inS_nn (x : Int) : inS (none, none) x ↔ True := by simp [inS]
@[simp] theorem inS_ns (b x : Int) : inS (none, some b) x ↔ x ≤ b := by simp [inS]
@[simp] theorem inS_sn (a x : Int) : inS (some a, none) x ↔ a ≤ x := by simp [inS]
@[simp] theorem inS_ss (a b x : Int) : inS (some a, some b) x ↔ a ≤ x ∧ x ≤ b := by simp [inS]
@[simp] theorem inO_some (s : S2) (x : Int) : inO (some s) x ↔ inS s x := by simp [inO]
@[simp] theorem inO_none (x : Int) : inO none x ↔ False := by simp [inO]
theorem ok_ex {s : S2} (h : okS s = true) : inS s (someT s) := by
  rcases s with ⟨_ | a, _ | b⟩ <;> simp [someT]
  simpa [okS] using h
theorem ex_ok {s : S2} {x : Int} (h : inS s x) : okS s = true := by
  rcases s with ⟨_ | a, _ | b⟩ <;> simp [okS] at *
  omega
theorem goodO_ex {o : Option S2} (h : goodO o) {s : S2} (e : o = some s) : inO o (someT s) := by
  subst e
  rw [inO_some]
  exact ok_ex (h s rfl)
theorem in_comS (x y : S2) (v : Int) : inS (comS x y) v ↔ inS x v ∧ inS y v := by
  rcases x with ⟨_ | a, _ | b⟩ <;> rcases y with ⟨_ | c, _ | d⟩ <;> simp [comS, maxO, minO] <;> omega
theorem com_good (a b : Option S2) : goodO (comT a b) := by
  intro s e
  cases a <;> cases b <;> simp [comT] at e
  rw [← e.2]; exact e.1
theorem in_com (a b : Option S2) (v : Int) : inO (comT a b) v ↔ inO a v ∧ inO b v := by
  cases a with
  | none => simp [comT]
  | some x => cases b with
    | none => simp [comT]
    | some y =>
      rw [inO_some, inO_some, ← in_comS]
      unfold comT
      simp only
      by_cases h : okS (comS x y) = true
      · rw [if_pos h, inO_some]
      · rw [if_neg h, inO_none]
        exact ⟨False.elim, fun q => h (ex_ok q)⟩
/-- the same numbers, the same stretch -/
theorem ext_S {a b : S2} (ha : okS a = true) (hb : okS b = true) (h : ∀ x, inS a x ↔ inS b x) : a = b := by
  rcases a with ⟨_ | a1, _ | a2⟩ <;> rcases b with ⟨_ | b1, _ | b2⟩ <;> simp [okS] at ha hb h
  all_goals first
    | rfl
    | (exfalso; have := h (b2 + 1); omega)
    | (exfalso; have := h (b1 - 1); omega)
    | (exfalso; have := h (a2 + 1); omega)
    | (exfalso; have := h (a1 - 1); omega)
    | (have h1 := h a1; have h2 := h b1; have h3 := h a2; have h4 := h b2; simp; omega)
    | (have h1 := h a1; have h2 := h b1; simp; omega)
    | (have h3 := h a2; have h4 := h b2; simp; omega)
    | (exfalso; have h3 := h (min a2 (b1 - 1)); omega)
    | (exfalso; have h3 := h (max a1 (b2 + 1)); omega)
    | (exfalso; have h3 := h (min b2 (a1 - 1)); omega)
    | (exfalso; have h3 := h (max b1 (a2 + 1)); omega)
theorem ext_O {a b : Option S2} (ha : goodO a) (hb : goodO b) (h : ∀ x, inO a x ↔ inO b x) : a = b := by
  cases a with
  | none => cases b with
    | none => rfl
    | some b =>
      have := (h (someT b)).mpr (by rw [inO_some]; exact ok_ex (hb b rfl))
      simp at this
  | some a => cases b with
    | none =>
      have := (h (someT a)).mp (by rw [inO_some]; exact ok_ex (ha a rfl))
      simp at this
    | some b => rw [ext_S (ha a rfl) (hb b rfl) fun x => by simpa using h x]
/-! ### turning -/
theorem in_turn (s : S2) (x : Int) : inS (turnS s) x ↔ inS s (-x) := by
  rcases s with ⟨_ | a, _ | b⟩ <;> simp [turnS] <;> omega
theorem ok_turn (s : S2) : okS (turnS s) = okS s := by
  rcases s with ⟨_ | a, _ | b⟩ <;> simp [turnS, okS]
/-! ### one event with a number that is not known -/
def okT (t : Tri) : Prop := t.l ≤ t.h
theorem aheadF_in {s : S2} {t : Tri} (ht : okT t) (hs : okS s = true) (y : Int) : inS (aheadF s t) y ↔ ∃ x k, inS s x ∧ t.l ≤ k ∧ k ≤ t.h ∧ y = max x k := by
  rcases t with ⟨w, l, u⟩
  simp only [okT] at ht
  constructor
  · intro h
    rcases s with ⟨_ | a, _ | b⟩ <;> simp [aheadF, okS] at h hs ⊢
    · exact ⟨y, l, by omega, ht, by omega⟩
    · exact ⟨min y b, by omega, min y u, by omega, by omega, by omega⟩
    · exact ⟨y, by omega, l, by omega, ht, by omega⟩
    · exact ⟨min (max y a) b, by omega, max l (min y u), by omega, by omega, by omega⟩
  · rintro ⟨x, k, h1, h2, h3, rfl⟩
    simp only at h2 h3
    rcases s with ⟨_ | a, _ | b⟩ <;> simp [aheadF, okS] at h1 hs ⊢ <;> omega
theorem ahead_in {s : S2} {t : Tri} (ht : okT t) (hs : okS s = true) (y : Int) : inS (aheadT s t) y ↔ ∃ x k, inS s x ∧ t.l ≤ k ∧ k ≤ t.h ∧ y = behT x (t.w, k) := by
  rcases t with ⟨w, l, u⟩
  cases w with
  | add =>
    simp only [okT] at ht
    rcases s with ⟨_ | a, _ | b⟩ <;> simp [aheadT, behT, okS] at hs ⊢
    · exact ⟨y - l, l, by omega, ht, by omega⟩
    · constructor
      · intro h; exact ⟨min (y - l) b, by omega, y - min (y - l) b, by omega, by omega, by omega⟩
      · rintro ⟨x, h0, k, h⟩; omega
    · constructor
      · intro h; exact ⟨max (y - u) a, by omega, y - max (y - u) a, by omega, by omega, by omega⟩
      · rintro ⟨x, h0, k, h⟩; omega
    · constructor
      · intro h; exact ⟨min (y - l) b, by omega, y - min (y - l) b, by omega, by omega, by omega⟩
      · rintro ⟨x, h0, k, h⟩; omega
  | floor => exact aheadF_in ht hs y
  | cap =>
    show inS (turnS (aheadF (turnS s) (turnT ⟨.cap, l, u⟩))) y ↔ _
    rw [in_turn, aheadF_in (by simp only [okT, turnT] at *; omega) (by rw [ok_turn]; exact hs)]
    simp only [turnT, behT, in_turn]
    constructor
    · rintro ⟨x, k, h1, h2, h3, h4⟩
      exact ⟨-x, -k, h1, by omega, by omega, by omega⟩
    · rintro ⟨x, k, h1, h2, h3, h4⟩
      exact ⟨-x, -k, by rwa [Int.neg_neg], by omega, by omega, by omega⟩
theorem backF_in {s : S2} {t : Tri} (ht : okT t) (hs : okS s = true) (x : Int) : inO (backF s t) x ↔ ∃ k, t.l ≤ k ∧ k ≤ t.h ∧ inS s (max x k) := by
  rcases t with ⟨w, l, u⟩
  simp only [okT] at ht
  constructor
  · intro h
    rcases s with ⟨_ | a, _ | b⟩
    · exact ⟨l, by simp, ht, by simp⟩
    · refine ⟨l, by simp, ht, ?_⟩
      by_cases hb : b < l <;> simp [backF, hb] at h ⊢
      omega
    · by_cases ha : a ≤ u <;> simp [backF, ha] at h ⊢
      · exact ⟨u, ht, by simp, by omega⟩
      · exact ⟨l, by simp, ht, by omega⟩
    · by_cases hb : b < l
      · simp [backF, hb] at h
      · by_cases ha : a ≤ u <;> simp [backF, ha, hb] at h ⊢ <;> simp [okS] at hs
        · exact ⟨max l (min u a), by omega, by omega, by omega⟩
        · exact ⟨l, by simp, ht, by omega⟩
  · rintro ⟨k, h1, h2, h3⟩
    simp only at h1 h2
    rcases s with ⟨_ | a, _ | b⟩ <;> simp [okS] at hs h3
    · simp [backF]
    · have hb : ¬ b < l := by omega
      simp [backF, hb]; omega
    · by_cases ha : a ≤ u <;> simp [backF, ha]
      omega
    · have hb : ¬ b < l := by omega
      by_cases ha : a ≤ u <;> simp [backF, ha, hb] <;> omega
theorem backF_good {s : S2} (t : Tri) (hs : okS s = true) : goodO (backF s t) := by
  intro y e
  rcases s with ⟨_ | a, _ | b⟩ <;> simp only [backF, if_true, Bool.false_eq_true, if_false, decide_eq_true_eq] at e
  · cases e; rfl
  · split at e <;> cases e
    rfl
  · split at e <;> cases e <;> rfl
  · split at e
    · cases e
    · split at e <;> cases e
      · rfl
      · exact hs
theorem backS2_in {s : S2} {t : Tri} (ht : okT t) (hs : okS s = true) (x : Int) : inO (backS2 s t) x ↔ ∃ k, t.l ≤ k ∧ k ≤ t.h ∧ inS s (behT x (t.w, k)) := by
  rcases t with ⟨w, l, u⟩
  cases w with
  | add =>
    simp only [okT] at ht
    rcases s with ⟨_ | a, _ | b⟩ <;> simp [backS2, behT, okS] at hs ⊢
    · exact ⟨l, by omega, ht⟩
    · constructor
      · intro h; exact ⟨l, by omega, by omega, by omega⟩
      · rintro ⟨k, h⟩; omega
    · constructor
      · intro h; exact ⟨u, by omega, by omega, by omega⟩
      · rintro ⟨k, h⟩; omega
    · constructor
      · intro h; exact ⟨max l (a - x), by omega, by omega, by omega⟩
      · rintro ⟨k, h⟩; omega
  | floor => exact backF_in ht hs x
  | cap =>
    have q := backF_in (s := turnS s) (t := turnT ⟨.cap, l, u⟩) (by simp only [okT, turnT] at *; omega) (by rw [ok_turn]; exact hs) (-x)
    have e : inO (backS2 s ⟨.cap, l, u⟩) x ↔ inO (backF (turnS s) (turnT ⟨.cap, l, u⟩)) (-x) := by
      show inO ((backF (turnS s) (turnT ⟨.cap, l, u⟩)).map turnS) x ↔ _
      cases backF (turnS s) (turnT ⟨.cap, l, u⟩) with
      | none => simp
      | some z => simp [in_turn]
    rw [e, q]
    simp only [turnT, behT, in_turn]
    constructor
    · rintro ⟨k, h1, h2, h3⟩
      exact ⟨-k, by omega, by omega, by rw [show min x (-k) = - max (-x) k by omega]; exact h3⟩
    · rintro ⟨k, h1, h2, h3⟩
      exact ⟨-k, by omega, by omega, by rw [show - max (-x) (-k) = min x k by omega]; exact h3⟩
theorem backS2_good {s : S2} {t : Tri} (ht : okT t) (hs : okS s = true) : goodO (backS2 s t) := by
  rcases t with ⟨w, l, u⟩
  cases w with
  | add =>
    intro y e
    cases e
    simp only [okT] at ht
    rcases s with ⟨_ | a, _ | b⟩ <;> simp [okS] at hs ⊢
    omega
  | floor => exact backF_good _ hs
  | cap =>
    intro y e
    have h := backF_good (s := turnS s) (turnT ⟨.cap, l, u⟩) (by rw [ok_turn]; exact hs)
    have e : (backF (turnS s) (turnT ⟨.cap, l, u⟩)).map turnS = some y := e
    cases q : backF (turnS s) (turnT ⟨.cap, l, u⟩) with
    | none => rw [q] at e; cases e
    | some z =>
      rw [q] at e h
      cases e
      rw [ok_turn]
      exact h z rfl
theorem ahead_good {s : S2} {t : Tri} (ht : okT t) (hs : okS s = true) : okS (aheadT s t) = true :=
  ex_ok ((ahead_in ht hs (behT (someT s) (t.w, t.l))).mpr ⟨someT s, t.l, ok_ex hs, Int.le_refl _, ht, rfl⟩)
theorem aheadO_in {o : Option S2} {t : Tri} (ht : okT t) (ho : goodO o) (y : Int) : inO (o.map (aheadT · t)) y ↔ ∃ x k, inO o x ∧ t.l ≤ k ∧ k ≤ t.h ∧ y = behT x (t.w, k) := by
  cases o with
  | none => simp
  | some s => simpa using ahead_in ht (ho s rfl) y
theorem backO_in {o : Option S2} {t : Tri} (ht : okT t) (ho : goodO o) (x : Int) : inO (backT o t) x ↔ ∃ k, t.l ≤ k ∧ k ≤ t.h ∧ inO o (behT x (t.w, k)) := by
  cases o with
  | none => simp [backT]
  | some s => simpa [backT] using backS2_in ht (ho s rfl) x
theorem num_add {l u : Int} {here there : S2} (hh : okS here = true) (hh2 : okS there = true) (k : Int) : inO (numT ⟨.add, l, u⟩ here there) k ↔ (l ≤ k ∧ k ≤ u) ∧ ∃ x, inS here x ∧ inS there (x + k) := by
  simp only [numT]
  rw [in_com]
  rcases here with ⟨_ | a, _ | b⟩ <;> rcases there with ⟨_ | c, _ | d⟩ <;> simp [subO, okS] at hh hh2 ⊢ <;> intro _ _
  · exact ⟨d - k, by omega⟩
  · exact ⟨c - k, by omega⟩
  · exact ⟨c - k, by omega⟩
  · exact ⟨b, by omega⟩
  · exact ⟨min b (d - k), by omega⟩
  · constructor
    · intro h; exact ⟨b, by omega⟩
    · rintro ⟨x, h⟩; omega
  · constructor
    · intro h; exact ⟨min b (d - k), by omega⟩
    · rintro ⟨x, h⟩; omega
  · exact ⟨a, by omega⟩
  · constructor
    · intro h; exact ⟨a, by omega⟩
    · rintro ⟨x, h⟩; omega
  · exact ⟨max a (c - k), by omega⟩
  · constructor
    · intro h; exact ⟨max a (c - k), by omega⟩
    · rintro ⟨x, h⟩; omega
  · exact ⟨a, by omega⟩
  · constructor
    · intro h; exact ⟨a, by omega⟩
    · rintro ⟨x, h⟩; omega
  · constructor
    · intro h; exact ⟨b, by omega⟩
    · rintro ⟨x, h⟩; omega
  · constructor
    · intro h; exact ⟨max a (c - k), by omega⟩
    · rintro ⟨x, h⟩; omega
theorem numF_in {t : Tri} {here there : S2} (hh : okS here = true) (hh2 : okS there = true) (hex : ∃ x k, inS here x ∧ inS there (max x k)) (k : Int) : inO (numF t here there) k ↔ (t.l ≤ k ∧ k ≤ t.h) ∧ ∃ x, inS here x ∧ inS there (max x k) := by
  unfold numF
  rw [in_com, inO_some, inO_some, inS_ss]
  have hc := in_com (some here) (some there)
  simp only [inO_some] at hc
  cases q : comT (some here) (some there) with
  | some z =>
    have hz : inS z (someT z) := ok_ex (com_good _ _ z q)
    rw [q] at hc
    have h1 := (hc (someT z)).mp (by rw [inO_some]; exact hz)
    simp only [Option.isNone_some, Bool.false_eq_true, if_false]
    refine and_congr_right fun _ => ?_
    constructor
    · intro h
      refine ⟨someT z, h1.1, ?_⟩
      have h2 := h1.2
      generalize someT z = v at *
      rcases there with ⟨_ | c, _ | d⟩ <;> simp at * <;> omega
    · rintro ⟨x, h2, h3⟩
      rcases there with ⟨_ | c, _ | d⟩ <;> simp at * <;> omega
  | none =>
    rw [q] at hc
    simp only [Option.isNone_none, if_true]
    refine and_congr_right fun _ => ?_
    constructor
    · intro h
      obtain ⟨x, k', h2, h3⟩ := hex
      refine ⟨x, h2, ?_⟩
      have h4 := hc x
      rw [inO_none] at h4
      have h5 : ¬ inS there x := fun z => h4.mpr ⟨h2, z⟩
      rcases there with ⟨_ | c, _ | d⟩ <;> simp at * <;> omega
    · rintro ⟨x, h2, h3⟩
      have h4 := hc x
      rw [inO_none] at h4
      have h5 : ¬ inS there x := fun z => h4.mpr ⟨h2, z⟩
      by_cases h6 : x ≤ k
      · rwa [show max x k = k by omega] at h3
      · rw [show max x k = x by omega] at h3
        exact absurd h3 h5
theorem num_in {t : Tri} {here there : S2} (hh : okS here = true) (hh2 : okS there = true) (hex : ∃ x k, inS here x ∧ inS there (behT x (t.w, k))) (k : Int) : inO (numT t here there) k ↔ (t.l ≤ k ∧ k ≤ t.h) ∧ ∃ x, inS here x ∧ inS there (behT x (t.w, k)) := by
  rcases t with ⟨w, l, u⟩
  cases w with
  | add => exact num_add hh hh2 k
  | floor => exact numF_in hh hh2 hex k
  | cap =>
    have q := numF_in (t := turnT ⟨.cap, l, u⟩) (here := turnS here) (there := turnS there) (by rw [ok_turn]; exact hh) (by rw [ok_turn]; exact hh2) (by
      obtain ⟨x, k, h1, h2⟩ := hex
      refine ⟨-x, -k, by rw [in_turn, Int.neg_neg]; exact h1, ?_⟩
      rw [in_turn, show - max (-x) (-k) = min x k by omega]
      exact h2) (-k)
    have e : inO (numT ⟨.cap, l, u⟩ here there) k ↔ inO (numF (turnT ⟨.cap, l, u⟩) (turnS here) (turnS there)) (-k) := by
      show inO ((numF (turnT ⟨.cap, l, u⟩) (turnS here) (turnS there)).map turnS) k ↔ _
      cases numF (turnT ⟨.cap, l, u⟩) (turnS here) (turnS there) with
      | none => simp
      | some z => simp [in_turn]
    rw [e, q]
    simp only [turnT, behT]
    constructor
    · rintro ⟨h1, x, h2, h3⟩
      refine ⟨by omega, -x, by rwa [in_turn] at h2, ?_⟩
      rw [in_turn] at h3
      rw [show min (-x) k = - max x (-k) by omega]
      exact h3
    · rintro ⟨h1, x, h2, h3⟩
      refine ⟨by omega, -x, by rwa [in_turn, Int.neg_neg], ?_⟩
      rw [in_turn, show - max (-x) (-k) = min x k by omega]
      exact h3
theorem num_good (t : Tri) (here there : S2) : goodO (numT t here there) := by
  rcases t with ⟨w, l, u⟩
  cases w with
  | add => exact com_good (some (some l, some u)) (some (subO there.1 here.2, subO there.2 here.1))
  | floor => exact com_good (some (some l, some u)) (some (if (comT (some here) (some there)).isNone = true then there else (none, there.2)))
  | cap =>
    intro y e
    have h := com_good (some (some (-u), some (-l))) (some (if (comT (some (turnS here)) (some (turnS there))).isNone = true then turnS there else (none, (turnS there).2)))
    have e : (numF (turnT ⟨.cap, l, u⟩) (turnS here) (turnS there)).map turnS = some y := e
    cases q : numF (turnT ⟨.cap, l, u⟩) (turnS here) (turnS there) with
    | none => rw [q] at e; cases e
    | some z =>
      rw [q] at e
      cases e
      rw [ok_turn]
      exact h z q
end RF.L
set_option maxRecDepth 100000
set_option maxHeartbeats 1000000
namespace RF.L
/-! ### what goes with all three -/
def Rok (rs : List Rd) (m : Int) (y : Int) : Prop := ∀ r ∈ rs, r.1 = m → r.2 = y
theorem in_read (rs : List Rd) (m y : Int) : inO (readT rs m) y ↔ Rok rs m y := by
  have : ∀ (rs : List Rd) (f : Option S2), inO (rs.foldl (readStep m) f) y ↔ inO f y ∧ Rok rs m y := by
    intro rs
    induction rs with
    | nil => intro f; simp [Rok]
    | cons r rs ih =>
      intro f
      rw [List.foldl_cons, ih]
      unfold readStep
      by_cases h : r.1 = m
      · rw [if_pos h, in_com, inO_some, inS_ss]
        constructor
        · rintro ⟨⟨h1, h2⟩, h3⟩
          refine ⟨h1, fun r' hr hm => ?_⟩
          rcases List.mem_cons.mp hr with rfl | hr
          · omega
          · exact h3 r' hr hm
        · rintro ⟨h1, h2⟩
          have := h2 r (by simp) h
          exact ⟨⟨h1, by omega⟩, fun r' hr hm => h2 r' (by simp [hr]) hm⟩
      · rw [if_neg h]
        refine and_congr_right fun _ => ⟨fun h3 r' hr hm => ?_, fun h2 r' hr hm => h2 r' (by simp [hr]) hm⟩
        rcases List.mem_cons.mp hr with rfl | hr
        · exact absurd hm h
        · exact h3 r' hr hm
  rw [readT, this, inO_some]
  simp
theorem read_good (rs : List Rd) (m : Int) : goodO (readT rs m) := by
  have : ∀ (rs : List Rd) (f : Option S2), goodO f → goodO (rs.foldl (readStep m) f) := by
    intro rs
    induction rs with
    | nil => intro f h; exact h
    | cons r rs ih =>
      intro f h
      rw [List.foldl_cons]
      refine ih _ ?_
      unfold readStep
      by_cases h1 : r.1 = m
      · rw [if_pos h1]; exact com_good _ _
      · rw [if_neg h1]; exact h
  exact this rs _ fun s e => by cases e; rfl
def fit1 (t : Tri) (e : Ev) : Prop := t.w = e.1 ∧ t.l ≤ e.2 ∧ e.2 ≤ t.h
def FitFrom (rs : List Rd) : Nat → List Tri → Int → List Ev → Prop
  | m, [], y, [] => Rok rs m y
  | m, t :: ts, y, e :: es => Rok rs m y ∧ fit1 t e ∧ FitFrom rs (m + 1) ts (behT y e) es
  | _, [], _, _ :: _ => False
  | _, _ :: _, _, [] => False
def okTs (ts : List Tri) : Prop := ∀ t ∈ ts, okT t
theorem okTs_cons {t : Tri} {ts : List Tri} : okTs (t :: ts) ↔ okT t ∧ okTs ts := by simp [okTs]
theorem bk_good (rs : List Rd) (m : Nat) (ts : List Tri) : goodO (bk0 rs m ts) := by
  cases ts with
  | nil => exact read_good rs m
  | cons t ts => exact com_good _ _
theorem bk_in (rs : List Rd) : ∀ (ts : List Tri) (m : Nat) (y : Int), okTs ts → (inO (bk0 rs m ts) y ↔ ∃ es, FitFrom rs m ts y es)
  | [], m, y, _ => by
    show inO (readT rs m) y ↔ _
    rw [in_read]
    constructor
    · intro h; exact ⟨[], h⟩
    · rintro ⟨es, h⟩
      cases es with
      | nil => exact h
      | cons e es => exact h.elim
  | t :: ts, m, y, h => by
    rw [okTs_cons] at h
    show inO (comT (backT (bk0 rs (m + 1) ts) t) (readT rs m)) y ↔ _
    rw [in_com, in_read, backO_in h.1 (bk_good rs (m + 1) ts)]
    constructor
    · rintro ⟨⟨k, h1, h2, h3⟩, h4⟩
      obtain ⟨es, h5⟩ := (bk_in rs ts (m + 1) _ h.2).mp h3
      exact ⟨(t.w, k) :: es, h4, ⟨rfl, h1, h2⟩, h5⟩
    · rintro ⟨es, h1⟩
      cases es with
      | nil => exact h1.elim
      | cons e es =>
        obtain ⟨h1, ⟨h2, h3, h4⟩, h5⟩ := h1
        rcases e with ⟨w, k⟩
        cases h2
        exact ⟨⟨k, h3, h4, (bk_in rs ts (m + 1) _ h.2).mpr ⟨es, h5⟩⟩, h1⟩
theorem fit_len {rs : List Rd} : ∀ {m : Nat} {ts : List Tri} {y : Int} {es : List Ev}, FitFrom rs m ts y es → es.length = ts.length
  | _, [], _, [], _ => rfl
  | _, [], _, _ :: _, h => h.elim
  | _, _ :: _, _, [], h => h.elim
  | m, _ :: ts, _, _ :: es, h => congrArg (· + 1) (fit_len (m := m + 1) h.2.2)
theorem fit_head {rs : List Rd} {m : Nat} {ts : List Tri} {y : Int} {es : List Ev} (h : FitFrom rs m ts y es) : Rok rs m y := by
  cases ts <;> cases es
  · exact h
  · exact h.elim
  · exact h.elim
  · exact h.1
theorem bkT_at (rs : List Rd) : ∀ (ts : List Tri) (m i : Nat), i ≤ ts.length → (bkT rs m ts)[i]? = some (bk0 rs (m + i) (ts.drop i))
  | ts, m, 0, _ => rfl
  | [], m, i + 1, h => by simp at h
  | t :: ts, m, i + 1, h => by
    rw [bkT_cons, List.getElem?_cons_succ, bkT_at rs ts (m + 1) i (by simpa using h), List.drop_succ_cons, show m + 1 + i = m + (i + 1) by omega]
/-- the levels at a moment, from ahead and from behind -/
theorem lev_in (rs : List Rd) : ∀ (i : Nat) (ts : List Tri) (m : Nat) (cur : Option S2), okTs ts → goodO cur → (∀ x, inO cur x → Rok rs m x) → i ≤ ts.length →
    ∃ h, (onT rs m cur ts)[i]? = some h ∧ goodO h ∧ ∀ y, (inO h y ∧ inO (bk0 rs (m + i) (ts.drop i)) y) ↔ ∃ x es, inO cur x ∧ FitFrom rs m ts x es ∧ (levT x es)[i]? = some y
  | 0, ts, m, cur, ht, hc, hr, _ => by
    have e0 : ∀ (x : Int) (es : List Ev), (levT x es)[0]? = some x := fun x es => by cases es <;> rfl
    refine ⟨cur, by cases ts <;> rfl, hc, fun y => ?_⟩
    rw [List.drop_zero, Nat.add_zero, bk_in rs ts m y ht]
    constructor
    · rintro ⟨h1, es, h2⟩; exact ⟨y, es, h1, h2, e0 y es⟩
    · rintro ⟨x, es, h1, h2, h3⟩
      rw [e0] at h3
      cases h3
      exact ⟨h1, es, h2⟩
  | i + 1, [], m, cur, ht, hc, hr, h => by simp at h
  | i + 1, t :: ts, m, cur, ht, hc, hr, h => by
    rw [okTs_cons] at ht
    obtain ⟨z, h1, h2, h3⟩ := lev_in rs i ts (m + 1) (comT (cur.map (aheadT · t)) (readT rs ((m : Int) + 1))) ht.2 (com_good _ _) (fun x hx => by
      rw [in_com, in_read] at hx
      exact_mod_cast hx.2) (by simpa using h)
    refine ⟨z, h1, h2, fun y => ?_⟩
    rw [List.drop_succ_cons, show m + (i + 1) = m + 1 + i by omega, h3]
    constructor
    · rintro ⟨x', es, h4, h5, h6⟩
      rw [in_com, aheadO_in ht.1 hc] at h4
      obtain ⟨⟨x, k, h7, h8, h9, rfl⟩, h10⟩ := h4
      exact ⟨x, (t.w, k) :: es, h7, ⟨hr x h7, ⟨rfl, h8, h9⟩, h5⟩, h6⟩
    · rintro ⟨x, es, h4, h5, h6⟩
      cases es with
      | nil => exact h5.elim
      | cons e es =>
        obtain ⟨h7, ⟨h8, h9, h10⟩, h11⟩ := h5
        rcases e with ⟨w, k⟩
        cases h8
        refine ⟨behT x (t.w, k), es, ?_, h11, h6⟩
        rw [in_com, aheadO_in ht.1 hc, in_read]
        exact ⟨⟨x, k, h4, h9, h10, rfl⟩, by exact_mod_cast fit_head h11⟩
/-- a start and events that go with all -/
def Fit (ts : List Tri) (s : S2) (rs : List Rd) (x : Int) (es : List Ev) : Prop := inS s x ∧ FitFrom rs 0 ts x es
theorem lev_at {ts : List Tri} {s : S2} {rs : List Rd} (ht : okTs ts) (hs : okS s = true) {i : Nat} (hi : i ≤ ts.length) : ∃ o, (levL ts s rs)[i]? = some o ∧ goodO o ∧ ∀ y, inO o y ↔ ∃ x es, Fit ts s rs x es ∧ (levT x es)[i]? = some y := by
  obtain ⟨h, h1, h2, h3⟩ := lev_in rs i ts 0 (comT (some s) (readT rs 0)) ht (com_good _ _) (fun x hx => by
    rw [in_com, in_read] at hx
    exact_mod_cast hx.2) hi
  refine ⟨comT h (bk0 rs (0 + i) (ts.drop i)), ?_, com_good _ _, fun y => ?_⟩
  · unfold levL waysOn waysBack
    rw [List.getElem?_map, (List.getElem?_zip_eq_some (z := (h, bk0 rs (0 + i) (ts.drop i)))).mpr ⟨h1, bkT_at rs ts 0 i hi⟩]
    rfl
  · rw [in_com, h3]
    constructor
    · rintro ⟨x, es, h4, h5, h6⟩
      rw [in_com, inO_some] at h4
      exact ⟨x, es, ⟨h4.1, h5⟩, h6⟩
    · rintro ⟨x, es, ⟨h4, h5⟩, h6⟩
      refine ⟨x, es, ?_, h5, h6⟩
      rw [in_com, inO_some, in_read]
      exact ⟨h4, by exact_mod_cast fit_head h5⟩
theorem lev_someE (x : Int) : ∀ (es : List Ev) (i : Nat), i ≤ es.length → ∃ y, (levT x es)[i]? = some y
  | es, 0, _ => by cases es <;> exact ⟨x, rfl⟩
  | [], i + 1, h => by simp at h
  | e :: es, i + 1, h => lev_someE (behT x e) es i (by simpa using h)
def NoFit (ts : List Tri) (s : S2) (rs : List Rd) : Prop := ∀ x es, ¬ Fit ts s rs x es
theorem levT_len (x : Int) (es : List Ev) : (levT x es).length = es.length + 1 := by
  induction es generalizing x with
  | nil => rfl
  | cons e es ih => simp [levT, ih]
theorem any_none_iff {ts : List Tri} {s : S2} {rs : List Rd} (ht : okTs ts) (hs : okS s = true) : (levL ts s rs).any (·.isNone) = true ↔ NoFit ts s rs := by
  constructor
  · intro h x es hf
    rw [List.any_eq_true] at h
    obtain ⟨o, ho, hn⟩ := h
    obtain ⟨i, hi⟩ := List.getElem?_of_mem ho
    have hl : i ≤ ts.length := by
      have := (List.getElem?_eq_some_iff.mp hi).1
      rw [levL_len] at this
      omega
    obtain ⟨o', h1, h2, h3⟩ := lev_at (rs := rs) ht hs hl
    rw [hi] at h1
    cases h1
    obtain ⟨y, hy⟩ := lev_someE x es i (by rw [fit_len hf.2]; exact hl)
    have := (h3 y).mpr ⟨x, es, hf, hy⟩
    cases o with
    | none => simp at this
    | some z => simp at hn
  · intro h
    obtain ⟨o, h1, h2, h3⟩ := lev_at (rs := rs) ht hs (Nat.zero_le ts.length)
    rw [List.any_eq_true]
    refine ⟨o, List.mem_of_getElem? h1, ?_⟩
    cases o with
    | none => rfl
    | some z =>
      have := (h3 (someT z)).mp (goodO_ex h2 rfl)
      obtain ⟨x, es, hf, _⟩ := this
      exact (h x es hf).elim
theorem any_none_not {ts : List Tri} {s : S2} {rs : List Rd} (ht : okTs ts) (hs : okS s = true) : (levL ts s rs).any (·.isNone) = false ↔ ∃ x es, Fit ts s rs x es := by
  have h := any_none_iff (rs := rs) ht hs
  cases q : (levL ts s rs).any (·.isNone) with
  | true =>
    rw [q] at h
    have := h.mp rfl
    constructor
    · intro z; cases z
    · rintro ⟨x, es, hf⟩; exact (this x es hf).elim
  | false =>
    rw [q] at h
    refine ⟨fun _ => ?_, fun _ => rfl⟩
    exact Classical.byContradiction fun z => by
      have := h.mpr fun x es hf => z ⟨x, es, hf⟩
      cases this
/-- the levels at the moments, where something goes with all -/
theorem lev_list {ts : List Tri} {s : S2} {rs : List Rd} (ht : okTs ts) (hs : okS s = true) (hf : ∃ x es, Fit ts s rs x es) : ∃ ls : List S2, levL ts s rs = ls.map some ∧ ls.length = ts.length + 1 ∧ ∀ (i : Nat) (z : S2), ls[i]? = some z → okS z = true ∧ ∀ y, inS z y ↔ ∃ x es, Fit ts s rs x es ∧ (levT x es)[i]? = some y := by
  have h0 := (any_none_not (rs := rs) ht hs).mpr hf
  have : ∃ ls : List S2, levL ts s rs = ls.map some := by
    revert h0
    generalize levL ts s rs = l
    intro h0
    induction l with
    | nil => exact ⟨[], rfl⟩
    | cons o l ih =>
      cases o with
      | none => simp at h0
      | some z =>
        obtain ⟨m, rfl⟩ := ih (by simpa using h0)
        exact ⟨z :: m, rfl⟩
  obtain ⟨ls, hl⟩ := this
  have hlen : ls.length = ts.length + 1 := by
    have := levL_len ts s rs
    rwa [hl, List.length_map] at this
  refine ⟨ls, hl, hlen, fun i z hz => ?_⟩
  have hi : i ≤ ts.length := by
    have := (List.getElem?_eq_some_iff.mp hz).1
    omega
  obtain ⟨o, h1, h2, h3⟩ := lev_at (rs := rs) ht hs hi
  rw [hl, List.getElem?_map, hz] at h1
  cases h1
  exact ⟨h2 z rfl, fun y => by rw [← h3, inO_some]⟩
/-! ### the numbers -/
theorem num_at0 (rs : List Rd) : ∀ (k : Nat) (ts : List Tri) (m : Nat) (cur : Option S2) (t : Tri), okTs ts → goodO cur → (∀ x, inO cur x → Rok rs m x) → ts[k]? = some t → (∃ x es, inO cur x ∧ FitFrom rs m ts x es) →
    ∃ h th, (onT rs m cur ts)[k]? = some (some h) ∧ bk0 rs (m + k + 1) (ts.drop (k + 1)) = some th ∧ ∀ v, inO (numT t h th) v ↔ ∃ x es, inO cur x ∧ FitFrom rs m ts x es ∧ es[k]? = some (t.w, v)
  | _, [], m, cur, t, _, _, _, e, _ => by simp at e
  | 0, t' :: ts, m, cur, t, ht, hc, hr, e, hf => by
    have e : t' = t := by simpa using e
    subst e
    rw [okTs_cons] at ht
    obtain ⟨x0, es0, f1, f2⟩ := hf
    obtain ⟨s, rfl, f3⟩ := f1
    cases es0 with
    | nil => exact f2.elim
    | cons e0 es0 =>
      obtain ⟨g1, ⟨g2, g3, g4⟩, g5⟩ := f2
      have g6 := (bk_in rs ts (m + 1) _ ht.2).mpr ⟨es0, g5⟩
      obtain ⟨th, g7, g8⟩ := g6
      rcases e0 with ⟨w0, k0⟩
      cases g2
      refine ⟨s, th, rfl, g7, fun v => ?_⟩
      rw [num_in (hc s rfl) (bk_good rs (m + 1) ts th g7) ⟨x0, k0, f3, g8⟩ v]
      constructor
      · rintro ⟨⟨h1, h2⟩, x, h3, h4⟩
        have h5 : inO (bk0 rs (m + 1) ts) (behT x (t'.w, v)) := by rw [g7, inO_some]; exact h4
        obtain ⟨es, h6⟩ := (bk_in rs ts (m + 1) _ ht.2).mp h5
        exact ⟨x, (t'.w, v) :: es, by rw [inO_some]; exact h3, ⟨hr x (by rw [inO_some]; exact h3), ⟨rfl, h1, h2⟩, h6⟩, rfl⟩
      · rintro ⟨x, es, h1, h2, h3⟩
        cases es with
        | nil => cases h3
        | cons e es =>
          cases h3
          obtain ⟨q1, ⟨q2, q3, q4⟩, q5⟩ := h2
          rw [inO_some] at h1
          refine ⟨⟨q3, q4⟩, x, h1, ?_⟩
          have h5 := (bk_in rs ts (m + 1) _ ht.2).mpr ⟨es, q5⟩
          rw [g7, inO_some] at h5
          exact h5
  | k + 1, t' :: ts, m, cur, t, ht, hc, hr, e, hf => by
    rw [okTs_cons] at ht
    have step : ∀ x es', (inO (comT (cur.map (aheadT · t')) (readT rs ((m : Int) + 1))) x ∧ FitFrom rs (m + 1) ts x es') ↔ ∃ x0 n, inO cur x0 ∧ behT x0 (t'.w, n) = x ∧ FitFrom rs m (t' :: ts) x0 ((t'.w, n) :: es') := by
      intro x es'
      rw [in_com, aheadO_in ht.1 hc, in_read]
      constructor
      · rintro ⟨⟨⟨x0, n, h1, h2, h3, rfl⟩, h4⟩, h5⟩
        exact ⟨x0, n, h1, rfl, hr x0 h1, ⟨rfl, h2, h3⟩, h5⟩
      · rintro ⟨x0, n, h1, rfl, h2, ⟨_, h3, h4⟩, h5⟩
        exact ⟨⟨⟨x0, n, h1, h3, h4, rfl⟩, by exact_mod_cast fit_head h5⟩, h5⟩
    obtain ⟨h, th, h1, h2, h3⟩ := num_at0 rs k ts (m + 1) (comT (cur.map (aheadT · t')) (readT rs ((m : Int) + 1))) t ht.2 (com_good _ _) (fun x hx => by
      rw [in_com, in_read] at hx
      exact_mod_cast hx.2) (by simpa using e) (by
      obtain ⟨x, es, f1, f2⟩ := hf
      cases es with
      | nil => exact f2.elim
      | cons e es =>
        rcases e with ⟨w, n⟩
        have hw := f2.2.1.1
        simp only at hw
        subst hw
        exact ⟨_, es, (step _ es).mpr ⟨x, n, f1, rfl, f2⟩⟩)
    refine ⟨h, th, h1, by rw [← h2, List.drop_succ_cons, show m + (k + 1) + 1 = m + 1 + k + 1 by omega], fun v => ?_⟩
    rw [h3]
    constructor
    · rintro ⟨x, es, q1, q2, q3⟩
      obtain ⟨x0, n, r1, _, r2⟩ := (step x es).mp ⟨q1, q2⟩
      exact ⟨x0, _, r1, r2, by simpa using q3⟩
    · rintro ⟨x, es, q1, q2, q3⟩
      cases es with
      | nil => exact q2.elim
      | cons e es =>
        rcases e with ⟨w, n⟩
        have hw := q2.2.1.1
        simp only at hw
        subst hw
        obtain ⟨r1, r2⟩ := (step _ es).mpr ⟨x, n, q1, rfl, q2⟩
        exact ⟨_, es, r1, r2, by simpa using q3⟩
theorem num_at {ts : List Tri} {s : S2} {rs : List Rd} (ht : okTs ts) (hs : okS s = true) (hf : ∃ x es, Fit ts s rs x es) {k : Nat} {t : Tri} (hk : ts[k]? = some t) : ∃ z, numAt ts s rs (t, k) = some z ∧ okS z = true ∧ ∀ v, inS z v ↔ ∃ x es, Fit ts s rs x es ∧ es[k]? = some (t.w, v) := by
  have cv : ∀ x es, (inO (comT (some s) (readT rs 0)) x ∧ FitFrom rs 0 ts x es) ↔ Fit ts s rs x es := fun x es => by
    rw [in_com, inO_some, in_read]
    exact ⟨fun h => ⟨h.1.1, h.2⟩, fun h => ⟨⟨h.1, by exact_mod_cast fit_head h.2⟩, h.2⟩⟩
  obtain ⟨h, th, h1, h2, h3⟩ := num_at0 rs k ts 0 (comT (some s) (readT rs 0)) t ht (com_good _ _) (fun x hx => by
    rw [in_com, in_read] at hx
    exact_mod_cast hx.2) hk (by
    obtain ⟨x, es, hf⟩ := hf
    exact ⟨x, es, (cv x es).mpr hf⟩)
  have hkl : k < ts.length := (List.getElem?_eq_some_iff.mp hk).1
  have e : numAt ts s rs (t, k) = numT t h th := by
    unfold numAt waysOn waysBack
    simp only
    rw [h1, bkT_at rs ts 0 (k + 1) (by omega), show 0 + (k + 1) = 0 + k + 1 by omega, h2]
    rfl
  have h4 : ∀ v, inO (numT t h th) v ↔ ∃ x es, Fit ts s rs x es ∧ es[k]? = some (t.w, v) := fun v => by
    rw [h3]
    constructor
    · rintro ⟨x, es, q1, q2, q3⟩; exact ⟨x, es, (cv x es).mp ⟨q1, q2⟩, q3⟩
    · rintro ⟨x, es, q1, q3⟩
      obtain ⟨r1, r2⟩ := (cv x es).mpr q1
      exact ⟨x, es, r1, r2, q3⟩
  obtain ⟨x, es, hf⟩ := hf
  have hw : ∃ v, es[k]? = some (t.w, v) := by
    have : ∀ (k : Nat) (ts : List Tri) (m : Nat) (x : Int) (es : List Ev), FitFrom rs m ts x es → ts[k]? = some t → ∃ v, es[k]? = some (t.w, v) := by
      intro k
      induction k with
      | zero =>
        intro ts m x es hf e
        cases ts with
        | nil => cases e
        | cons t' ts =>
          cases es with
          | nil => exact hf.elim
          | cons e' es =>
            have e : t' = t := by simpa using e
            subst e
            have := hf.2.1.1
            rcases e' with ⟨w, v⟩
            simp only at this
            subst this
            exact ⟨v, rfl⟩
      | succ k ih =>
        intro ts m x es hf e
        cases ts with
        | nil => cases e
        | cons t' ts =>
          cases es with
          | nil => exact hf.elim
          | cons e' es =>
            obtain ⟨v, hv⟩ := ih ts (m + 1) _ es hf.2.2 (by simpa using e)
            exact ⟨v, by simpa using hv⟩
    exact this k ts 0 x es hf.2 hk
  obtain ⟨v, hv⟩ := hw
  obtain ⟨z, hz, _⟩ := (h4 v).mpr ⟨x, es, hf, hv⟩
  rw [hz] at h4
  exact ⟨z, by rw [e, hz], num_good _ _ _ z hz, fun v => by rw [← h4, inO_some]⟩
/-! ### one that goes with all -/
theorem go_fit (rs : List Rd) (bk : List (Option S2)) : ∀ (ts : List Tri) (k : Nat) (x : Int), okTs ts → (∀ i, i ≤ ts.length → bk[k + i]? = some (bk0 rs (k + i) (ts.drop i))) → inO (bk0 rs k ts) x → ∃ es, goT bk k x ts = some es ∧ FitFrom rs k ts x es
  | [], k, x, _, _, h => ⟨[], rfl, (in_read rs k x).mp h⟩
  | t :: ts, k, x, ht, hb, h => by
    obtain ⟨es, hf⟩ := (bk_in rs (t :: ts) k x ht).mp h
    rw [okTs_cons] at ht
    cases es with
    | nil => exact hf.elim
    | cons e es =>
      rcases e with ⟨w, n⟩
      obtain ⟨f1, ⟨f2, f3, f4⟩, f5⟩ := hf
      simp only at f2
      subst f2
      obtain ⟨th, g1, g2⟩ := (bk_in rs ts (k + 1) _ ht.2).mpr ⟨es, f5⟩
      have hb1 := hb 1 (by simp)
      rw [show (t :: ts).drop 1 = ts from rfl, g1] at hb1
      have hp : ∀ z : Int, inS (some x, some x) z ↔ x ≤ z ∧ z ≤ x := fun z => inS_ss _ _ _
      have hn := num_in (t := t) (here := (some x, some x)) (there := th) (by simp [okS]) (bk_good rs (k + 1) ts th g1) ⟨x, n, by rw [hp]; omega, g2⟩
      obtain ⟨y, q1, q2⟩ := (hn n).mpr ⟨⟨f3, f4⟩, x, by rw [hp]; omega, g2⟩
      have q3 : inO (numT t (some x, some x) th) (someT y) := by
        rw [q1, inO_some]
        exact ok_ex (num_good _ _ _ y q1)
      obtain ⟨⟨r1, r2⟩, x', r3, r4⟩ := (hn (someT y)).mp q3
      have : x' = x := by rw [hp] at r3; omega
      subst this
      obtain ⟨es', s1, s2⟩ := go_fit rs bk ts (k + 1) (behT x' (t.w, someT y)) ht.2 (fun i hi => by
        have := hb (i + 1) (by simpa using hi)
        rw [List.drop_succ_cons] at this
        rw [show k + 1 + i = k + (i + 1) by omega]
        exact this) (by rw [g1, inO_some]; exact r4)
      refine ⟨(t.w, someT y) :: es', ?_, f1, ⟨rfl, r1, r2⟩, s2⟩
      unfold goT
      rw [hb1]
      simp only [Option.join_some, q1, s1]
      rfl
theorem go_ok {ts : List Tri} {s : S2} {rs : List Rd} (ht : okTs ts) (hs : okS s = true) {l0 : S2} {ls : List S2} (h : levL ts s rs = (l0 :: ls).map some) : ∃ es, goT (waysBack ts rs) 0 (someT l0) ts = some es ∧ Fit ts s rs (someT l0) es := by
  obtain ⟨o, h1, h2, h3⟩ := lev_at (rs := rs) ht hs (Nat.zero_le ts.length)
  rw [h] at h1
  cases h1
  obtain ⟨x, es, hf, hx⟩ := (h3 (someT l0)).mp (goodO_ex h2 rfl)
  have hx2 : x = someT l0 := by cases es <;> simpa [levT] using hx
  subst hx2
  obtain ⟨es', h4, h5⟩ := go_fit rs (waysBack ts rs) ts 0 (someT l0) ht (fun i hi => by
    rw [show 0 + i = i by omega]
    have := bkT_at rs ts 0 i hi
    rw [show 0 + i = i by omega] at this
    exact this) ((bk_in rs ts 0 _ ht).mpr ⟨es, hf.2⟩)
  exact ⟨es', h4, hf.1, h5⟩
end RF.L
set_option maxRecDepth 100000
set_option maxHeartbeats 1000000
namespace RF.L
/-! ### fits, said by readings -/
def okRs (n : Nat) (rs : List Rd) : Prop := ∀ r ∈ rs, 0 ≤ r.1 ∧ r.1 ≤ (n : Int)
def RdOk (x : Int) (es : List Ev) (r : Rd) : Prop := (levT x es)[r.1.toNat]? = some r.2
theorem fg_nil : fgT [] [] = true := rfl
theorem fg_cons (t : Tri) (ts : List Tri) (e : Ev) (es : List Ev) : fgT (t :: ts) (e :: es) = true ↔ fit1 t e ∧ fgT ts es = true := by
  simp [fgT, fitB, fit1]
  constructor
  · rintro ⟨h1, ⟨h2, h3, h4⟩, h5⟩; exact ⟨⟨h2, h3, h4⟩, h1, h5⟩
  · rintro ⟨⟨h2, h3, h4⟩, h1, h5⟩; exact ⟨h1, ⟨h2, h3, h4⟩, h5⟩
theorem fg_len {ts : List Tri} {es : List Ev} (h : fgT ts es = true) : es.length = ts.length := by
  simp [fgT] at h
  exact h.1.symm
theorem fit_from_iff (rs : List Rd) : ∀ (ts : List Tri) (m : Nat) (x : Int) (es : List Ev), (∀ r ∈ rs, r.1 ≤ ((m + ts.length : Nat) : Int)) →
    (FitFrom rs m ts x es ↔ fgT ts es = true ∧ ∀ r ∈ rs, (m : Int) ≤ r.1 → (levT x es)[(r.1 - m).toNat]? = some r.2)
  | [], m, x, [], hr => by
    show Rok rs m x ↔ _
    constructor
    · intro h
      refine ⟨rfl, fun r hr' hm => ?_⟩
      have := hr r hr'
      simp at this
      have e : r.1 = (m : Int) := by omega
      rw [e, Int.sub_self, h r hr' e]
      rfl
    · rintro ⟨_, h⟩ r hr' e
      have := h r hr' (by omega)
      rw [e, Int.sub_self] at this
      exact (Option.some.inj this).symm
  | [], m, x, _ :: _, hr => ⟨False.elim, fun h => by have := fg_len h.1; simp at this⟩
  | _ :: _, m, x, [], hr => ⟨False.elim, fun h => by have := fg_len h.1; simp at this⟩
  | t :: ts, m, x, e :: es, hr => by
    show (Rok rs m x ∧ fit1 t e ∧ FitFrom rs (m + 1) ts (behT x e) es) ↔ _
    rw [fit_from_iff rs ts (m + 1) (behT x e) es (fun r hr' => by have := hr r hr'; simp at this; omega), fg_cons]
    constructor
    · rintro ⟨h1, h2, h3, h4⟩
      refine ⟨⟨h2, h3⟩, fun r hr' hm => ?_⟩
      by_cases q : r.1 = (m : Int)
      · rw [q, Int.sub_self, h1 r hr' q]
        rfl
      · have := h4 r hr' (by omega)
        rw [show (r.1 - (m : Int)).toNat = (r.1 - ((m + 1 : Nat) : Int)).toNat + 1 by omega]
        exact this
    · rintro ⟨⟨h2, h3⟩, h4⟩
      refine ⟨fun r hr' q => ?_, h2, h3, fun r hr' hm => ?_⟩
      · have := h4 r hr' (by omega)
        rw [q, Int.sub_self] at this
        exact (Option.some.inj this).symm
      · have := h4 r hr' (by omega)
        rw [show (r.1 - (m : Int)).toNat = (r.1 - ((m + 1 : Nat) : Int)).toNat + 1 by omega] at this
        exact this
theorem fit_iff {ts : List Tri} {s : S2} {rs : List Rd} (hr : okRs ts.length rs) (x : Int) (es : List Ev) : Fit ts s rs x es ↔ inS s x ∧ fgT ts es = true ∧ ∀ r ∈ rs, RdOk x es r := by
  unfold Fit
  rw [fit_from_iff rs ts 0 x es (fun r h => by have := (hr r h).2; simpa using this)]
  refine and_congr_right fun _ => and_congr_right fun _ => ⟨fun h r h1 => ?_, fun h r h1 _ => ?_⟩
  · have := h r h1 (by have := (hr r h1).1; simpa using this)
    unfold RdOk
    simpa using this
  · have := h r h1
    unfold RdOk at this
    simpa using this
theorem okRs_sub {n : Nat} {rs rs' : List Rd} (h : okRs n rs) (s : ∀ r ∈ rs', r ∈ rs) : okRs n rs' := fun r hr => h r (s r hr)
theorem fit_mono {ts : List Tri} {s : S2} {rs rs' : List Rd} (h : okRs ts.length rs) (q : ∀ r ∈ rs', r ∈ rs) {x : Int} {es : List Ev} (f : Fit ts s rs x es) : Fit ts s rs' x es := by
  rw [fit_iff h] at f
  rw [fit_iff (okRs_sub h q)]
  exact ⟨f.1, f.2.1, fun r hr => f.2.2 r (q r hr)⟩
theorem fg_ex : ∀ {ts : List Tri}, okTs ts → ∃ es, fgT ts es = true
  | [], _ => ⟨[], rfl⟩
  | t :: ts, h => by
    rw [okTs_cons] at h
    obtain ⟨es, he⟩ := fg_ex h.2
    exact ⟨(t.w, t.l) :: es, (fg_cons _ _ _ _).mpr ⟨⟨rfl, Int.le_refl _, h.1⟩, he⟩⟩
/-! ### all pairs -/
def rngT (lo hi : Int) : List Int := (List.range (hi + 1 - lo).toNat).map fun (i : Nat) => lo + (i : Int)
theorem mem_rng {lo hi x : Int} : x ∈ rngT lo hi ↔ lo ≤ x ∧ x ≤ hi := by
  simp only [rngT, List.mem_map, List.mem_range]
  constructor
  · rintro ⟨i, h1, rfl⟩; omega
  · rintro ⟨h1, h2⟩; exact ⟨(x - lo).toNat, by omega, by omega⟩
def bothT {α β : Type} (l : List α) (m : List β) : List (α × β) := l.flatMap fun a => m.map fun b => (a, b)
theorem mem_both {α β : Type} {l : List α} {m : List β} {p : α × β} : p ∈ bothT l m ↔ p.1 ∈ l ∧ p.2 ∈ m := by
  rcases p with ⟨a, b⟩
  simp only [bothT, List.mem_flatMap, List.mem_map, Prod.mk.injEq]
  constructor
  · rintro ⟨a', h1, b', h2, rfl, rfl⟩; exact ⟨h1, h2⟩
  · rintro ⟨h1, h2⟩; exact ⟨a, h1, b, h2, rfl, rfl⟩
def rowStep (rows : List (List Ev)) (t : Tri) : List (List Ev) := (bothT rows (rngT t.l t.h)).map fun p => p.1 ++ [(t.w, p.2)]
def rowsT (ts : List Tri) : List (List Ev) := ts.foldl rowStep [[]]
theorem mem_rows (ts : List Tri) (es : List Ev) : es ∈ rowsT ts ↔ fgT ts es = true := by
  have : ∀ (ts : List Tri) (rows : List (List Ev)), es ∈ ts.foldl rowStep rows ↔ ∃ pre ∈ rows, ∃ post, es = pre ++ post ∧ fgT ts post = true := by
    intro ts
    induction ts with
    | nil =>
      intro rows
      constructor
      · intro h; exact ⟨es, h, [], by simp, rfl⟩
      · rintro ⟨pre, h, post, rfl, hp⟩
        have := fg_len hp
        have : post = [] := List.length_eq_zero_iff.mp this
        subst this
        simpa using h
    | cons t ts ih =>
      intro rows
      rw [List.foldl_cons, ih]
      simp only [rowStep, List.mem_map, mem_both, mem_rng]
      constructor
      · rintro ⟨pre, ⟨p, ⟨h1, h2⟩, rfl⟩, post, rfl, h3⟩
        exact ⟨p.1, h1, (t.w, p.2) :: post, by simp, (fg_cons _ _ _ _).mpr ⟨⟨rfl, h2⟩, h3⟩⟩
      · rintro ⟨pre, h1, post, rfl, h3⟩
        cases post with
        | nil => have := fg_len h3; simp at this
        | cons e post =>
          rw [fg_cons] at h3
          rcases e with ⟨w, k⟩
          obtain ⟨⟨h4, h5⟩, h6⟩ := h3
          simp only at h4
          subst h4
          exact ⟨pre ++ [(t.w, k)], ⟨(pre, k), ⟨h1, h5⟩, rfl⟩, post, by simp, h6⟩
  rw [rowsT, this]
  constructor
  · rintro ⟨pre, h, post, rfl, h2⟩
    simp at h
    subst h
    simpa using h2
  · intro h; exact ⟨[], by simp, es, by simp, h⟩
def rdB (x : Int) (es : List Ev) (rs : List Rd) : Bool := rs.all fun r => decide ((levT x es)[r.1.toNat]? = some r.2)
def pairsT (ts : List Tri) (a b : Int) (rs : List Rd) : List (Int × List Ev) := (bothT (rngT a b) (rowsT ts)).filter fun p => rdB p.1 p.2 rs
theorem mem_pairs {ts : List Tri} {a b : Int} {rs : List Rd} (hr : okRs ts.length rs) (p : Int × List Ev) : p ∈ pairsT ts a b rs ↔ Fit ts (some a, some b) rs p.1 p.2 := by
  rw [fit_iff hr, pairsT, List.mem_filter, mem_both, mem_rng, mem_rows, inS_ss, rdB, List.all_eq_true]
  simp only [decide_eq_true_eq, RdOk]
  constructor
  · rintro ⟨⟨h1, h2⟩, h3⟩; exact ⟨h1, h2, h3⟩
  · rintro ⟨h1, h2, h3⟩; exact ⟨⟨h1, h2⟩, h3⟩
theorem pairs_nil {ts : List Tri} {a b : Int} {rs : List Rd} (hr : okRs ts.length rs) : pairsT ts a b rs = [] ↔ NoFit ts (some a, some b) rs := by
  rw [List.eq_nil_iff_forall_not_mem]
  constructor
  · intro h x es hf; exact h (x, es) ((mem_pairs hr _).mpr hf)
  · intro h p hp; exact h p.1 p.2 ((mem_pairs hr p).mp hp)
/-! ### first wrong -/
def leT (rs : List Rd) (m : Int) : List Rd := rs.filter fun r => decide (r.1 ≤ m)
theorem le_sub {rs : List Rd} {m : Int} : ∀ r ∈ leT rs m, r ∈ rs := fun r h => (List.mem_filter.mp h).1
theorem le_le {rs : List Rd} {m m' : Int} (h : m ≤ m') : ∀ r ∈ leT rs m, r ∈ leT rs m' := fun r hr => by
  have := List.mem_filter.mp hr
  exact List.mem_filter.mpr ⟨this.1, by have := this.2; simp at this ⊢; omega⟩
theorem noFit_up {ts : List Tri} {s : S2} {rs : List Rd} (hr : okRs ts.length rs) {m m' : Int} (h : m ≤ m') (n : NoFit ts s (leT rs m)) : NoFit ts s (leT rs m') := fun x es f =>
  n x es (fit_mono (okRs_sub hr le_sub) (le_le h) f)
/-- what the first wrong moment is: o -/
def FW (ts : List Tri) (s : S2) (rs : List Rd) (o : Option Int) : Prop := match o with
  | none => ∀ m, ¬ NoFit ts s (leT rs m)
  | some m => NoFit ts s (leT rs m) ∧ (∀ m', m' < m → ¬ NoFit ts s (leT rs m'))
theorem FW.one {ts : List Tri} {s : S2} {rs : List Rd} : ∀ {o o' : Option Int}, FW ts s rs o → FW ts s rs o' → o = o'
  | none, none, _, _ => rfl
  | none, some m, h, h' => (h m h'.1).elim
  | some m, none, h, h' => (h' m h.1).elim
  | some m, some m', h, h' => by
    have h1 : ¬ m < m' := fun z => h'.2 m z h.1
    have h2 : ¬ m' < m := fun z => h.2 m' z h'.1
    rw [show m = m' by omega]
/-- the first of an ascending list that has all moments -/
theorem fw_find {ts : List Tri} {s : S2} {rs : List Rd} (ht : okTs ts) (hs : okS s = true) (hr : okRs ts.length rs) (ms : List Int) (hms : ms.Pairwise (· ≤ ·)) (hm : ∀ i, i ∈ ms ↔ i ∈ rs.map (·.1)) : FW ts s rs (ms.find? (wrongB ts s rs)) := by
  have hw : ∀ m, wrongB ts s rs m = true ↔ NoFit ts s (leT rs m) := fun m => any_none_iff ht hs
  -- a moment at which nothing fits: some reading's moment, not above it, too
  have key : ∀ m, NoFit ts s (leT rs m) → ∃ m0, m0 ∈ ms ∧ m0 ≤ m ∧ NoFit ts s (leT rs m0) := by
    intro m n
    by_cases h : leT rs m = []
    · exfalso
      obtain ⟨es, he⟩ := fg_ex ht
      refine n (someT s) es ((fit_iff (okRs_sub hr le_sub) _ _).mpr ⟨ok_ex hs, he, fun r hr' => ?_⟩)
      rw [h] at hr'
      cases hr'
    · -- the greatest moment there
      have ex : ∀ (l : List Rd), l ≠ [] → ∃ r ∈ l, ∀ r' ∈ l, r'.1 ≤ r.1 := by
        intro l
        induction l with
        | nil => intro h; exact absurd rfl h
        | cons a l ih =>
          intro _
          by_cases hl : l = []
          · subst hl; exact ⟨a, by simp, by simp⟩
          · obtain ⟨r, h1, h2⟩ := ih hl
            by_cases q : r.1 ≤ a.1
            · refine ⟨a, by simp, fun r' hr' => ?_⟩
              rcases List.mem_cons.mp hr' with rfl | hr'
              · exact Int.le_refl _
              · exact Int.le_trans (h2 r' hr') q
            · refine ⟨r, by simp [h1], fun r' hr' => ?_⟩
              rcases List.mem_cons.mp hr' with rfl | hr'
              · omega
              · exact h2 r' hr'
      obtain ⟨r, h1, h2⟩ := ex _ h
      have h3 := List.mem_filter.mp h1
      refine ⟨r.1, (hm _).mpr (List.mem_map.mpr ⟨r, h3.1, rfl⟩), by simpa using h3.2, fun x es f => n x es ?_⟩
      refine fit_mono (okRs_sub hr le_sub) (fun r' hr' => ?_) f
      exact List.mem_filter.mpr ⟨le_sub r' hr', by simpa using h2 r' hr'⟩
  cases q : ms.find? (wrongB ts s rs) with
  | none =>
    intro m n
    obtain ⟨m0, h1, _, h3⟩ := key m n
    have := List.find?_eq_none.mp q m0 h1
    exact this ((hw m0).mpr h3)
  | some m =>
    have h1 := List.find?_some q
    refine ⟨(hw m).mp h1, fun m' hm' n => ?_⟩
    obtain ⟨m0, h2, h3, h4⟩ := key m' n
    have h5 := (hw m0).mpr h4
    obtain ⟨_, as, bs, e, h6⟩ := List.find?_eq_some_iff_append.mp q
    rw [e] at h2 hms
    rcases List.mem_append.mp h2 with h7 | h7
    · have := h6 m0 h7
      rw [h5] at this
      cases this
    · rcases List.mem_cons.mp h7 with rfl | h8
      · omega
      · have := (List.pairwise_append.mp hms).2.1
        have := (List.pairwise_cons.mp this).1 m0 h8
        omega
/-- by going down through all moments -/
def badT (ts : List Tri) (a b : Int) (rs : List Rd) : List Int → Option Int → Option Int
  | [], o => o
  | m :: ms, o => badT ts a b rs ms (if pairsT ts a b (leT rs m) = [] then some m else o)
def BadInv (ts : List Tri) (s : S2) (rs : List Rd) (n : Nat) : Option Int → Prop
  | none => ∀ m, (n : Int) ≤ m → ¬ NoFit ts s (leT rs m)
  | some m0 => (n : Int) ≤ m0 ∧ NoFit ts s (leT rs m0) ∧ ∀ m, (n : Int) ≤ m → m < m0 → ¬ NoFit ts s (leT rs m)
theorem bad_fw {ts : List Tri} {a b : Int} {rs : List Rd} (ht : okTs ts) (hs : okS (some a, some b) = true) (hr : okRs ts.length rs) : ∀ (n : Nat) (o : Option Int),
    BadInv ts (some a, some b) rs n o ∨ (o = none ∧ n = ts.length + 1) →
    FW ts (some a, some b) rs (badT ts a b rs ((List.range n).map fun (i : Nat) => ((n : Int) - 1 + (i : Int) * -1)) o) := by
  intro n
  induction n with
  | zero =>
    intro o h
    show FW ts _ rs o
    have neg : ∀ m, m < 0 → ¬ NoFit ts (some a, some b) (leT rs m) := fun m hm n => by
      obtain ⟨es, he⟩ := fg_ex ht
      refine n a es ((fit_iff (okRs_sub hr le_sub) _ _).mpr ⟨by simp [okS] at hs; rw [inS_ss]; omega, he, fun r hr' => ?_⟩)
      have h1 := List.mem_filter.mp hr'
      have h2 := hr r h1.1
      have h3 := h1.2
      simp at h3
      omega
    rcases h with h | ⟨rfl, h⟩
    · cases o with
      | none =>
        intro m n
        by_cases q : m < 0
        · exact neg m q n
        · exact h m (by simp; omega) n
      | some m0 =>
        refine ⟨h.2.1, fun m' hm' n => ?_⟩
        by_cases q : m' < 0
        · exact neg m' q n
        · exact h.2.2 m' (by simp; omega) hm' n
    · omega
  | succ n ih =>
    intro o h
    have e : ((List.range (n + 1)).map fun (i : Nat) => (((n + 1 : Nat) : Int) - 1 + (i : Int) * -1)) = (n : Int) :: (List.range n).map fun (i : Nat) => ((n : Int) - 1 + (i : Int) * -1) := by
      rw [List.range_succ_eq_map, List.map_cons, List.map_map]
      congr 1
      · simp
      · apply List.map_congr_left
        intro i _
        simp only [Function.comp]
        omega
    rw [e]
    unfold badT
    have hp := pairs_nil (a := a) (b := b) (okRs_sub hr (le_sub (rs := rs) (m := (n : Int))))
    by_cases q : pairsT ts a b (leT rs n) = []
    · rw [if_pos q]
      exact ih _ (.inl ⟨Int.le_refl _, hp.mp q, fun m h1 h2 => by omega⟩)
    · rw [if_neg q]
      have q2 : ¬ NoFit ts (some a, some b) (leT rs n) := fun z => q (hp.mpr z)
      refine ih _ (.inl ?_)
      rcases h with h | ⟨rfl, h⟩
      · cases o with
        | none =>
          intro m hm
          by_cases e : m = (n : Int)
          · subst e; exact q2
          · exact h m (by omega)
        | some m0 =>
          have h1 := h.1
          refine ⟨by omega, h.2.1, fun m hm hm0 => ?_⟩
          by_cases e : m = (n : Int)
          · subst e; exact q2
          · exact h.2.2 m (by omega) hm0
      · intro m hm z
        refine q2 fun x es f => z x es ?_
        refine fit_mono (okRs_sub hr le_sub) (fun r hr' => ?_) f
        have h1 := List.mem_filter.mp hr'
        have h2 := hr r h1.1
        refine List.mem_filter.mpr ⟨h1.1, ?_⟩
        simp at h2 ⊢
        omega
/-! ### needless ones -/
theorem drop_erase (rs : List Rd) (i : Nat) : dropAt rs i = rs.take i ++ rs.drop (i + 1) := by
  have : ∀ (rs : List Rd) (k i : Nat), ((rs.zipIdx k).filter fun p => !decide (p.2 = k + i)).map (·.1) = rs.take i ++ rs.drop (i + 1) := by
    intro rs
    induction rs with
    | nil => intro k i; simp
    | cons r rs ih =>
      intro k i
      rw [List.zipIdx_cons]
      cases i with
      | zero =>
        rw [List.filter_cons_of_neg (by simp)]
        have : (rs.zipIdx (k + 1)).filter (fun p => !decide (p.2 = k + 0)) = rs.zipIdx (k + 1) := by
          apply List.filter_eq_self.mpr
          intro p hp
          have := List.mem_zipIdx hp
          simp
          omega
        rw [this]
        simp
      | succ i =>
        rw [List.filter_cons_of_pos (by simp), List.map_cons]
        have := ih (k + 1) i
        rw [show k + (i + 1) = k + 1 + i by omega, this]
        simp
  have h := this rs 0 i
  rw [Nat.zero_add] at h
  exact h
theorem erase_sub {rs : List Rd} {i : Nat} : ∀ r ∈ dropAt rs i, r ∈ rs := fun r hr => by
  rw [drop_erase] at hr
  rcases List.mem_append.mp hr with h | h
  · exact List.mem_of_mem_take h
  · exact List.mem_of_mem_drop h
theorem erase_or {rs : List Rd} {i : Nat} {r : Rd} (h : rs[i]? = some r) : ∀ r' ∈ rs, r' ∈ dropAt rs i ∨ r' = r := fun r' hr => by
  rw [drop_erase]
  have hi : i < rs.length := (List.getElem?_eq_some_iff.mp h).1
  have e : rs = rs.take i ++ rs[i] :: rs.drop (i + 1) := by
    rw [← List.drop_eq_getElem_cons hi, List.take_append_drop]
  have e2 : rs[i] = r := (List.getElem?_eq_some_iff.mp h).2
  rw [e] at hr
  rcases List.mem_append.mp hr with q | q
  · exact .inl (List.mem_append.mpr (.inl q))
  · rcases List.mem_cons.mp q with q | q
    · exact .inr (by rw [q, e2])
    · exact .inl (List.mem_append.mpr (.inr q))
/-- a reading is needless: all that go with the rest go with it -/
theorem nd_iff {ts : List Tri} {s : S2} {rs : List Rd} (ht : okTs ts) (hs : okS s = true) (hr : okRs ts.length rs) (hf : ∃ x es, Fit ts s rs x es) {r : Rd} {i : Nat} (hi : rs[i]? = some r) :
    ndB ts s rs (r, i) = true ↔ ∀ x es, Fit ts s (dropAt rs i) x es → RdOk x es r := by
  have hmem : r ∈ rs := List.mem_of_getElem? hi
  have hrr := hr r hmem
  obtain ⟨x0, es0, hf0⟩ := hf
  have hf1 : Fit ts s (dropAt rs i) x0 es0 := fit_mono hr erase_sub hf0
  obtain ⟨ls, h1, h2, h3⟩ := lev_list (rs := dropAt rs i) ht hs ⟨x0, es0, hf1⟩
  have hm : r.1.toNat < ls.length := by omega
  obtain ⟨z, hz⟩ : ∃ z, ls[r.1.toNat]? = some z := ⟨_, List.getElem?_eq_getElem hm⟩
  obtain ⟨h4, h5⟩ := h3 _ z hz
  have e : ndB ts s rs (r, i) = decide (z = (some r.2, some r.2)) := by
    unfold ndB
    simp only
    rw [h1, List.getElem?_map, hz]
    rfl
  rw [e, decide_eq_true_eq]
  constructor
  · rintro rfl x es f
    obtain ⟨y, hy⟩ := lev_someE x es r.1.toNat (by rw [fit_len f.2]; omega)
    have := (h5 y).mpr ⟨x, es, f, hy⟩
    rw [inS_ss] at this
    unfold RdOk
    rw [hy, show y = r.2 by omega]
  · intro h
    refine ext_S h4 (by simp [okS]) fun y => ?_
    rw [h5, inS_ss]
    constructor
    · rintro ⟨x, es, f, hy⟩
      have := h x es f
      unfold RdOk at this
      rw [hy] at this
      have := Option.some.inj this
      omega
    · intro hy
      have := h x0 es0 hf1
      exact ⟨x0, es0, hf1, by rw [show y = r.2 by omega]; exact this⟩
theorem nd_pairs {ts : List Tri} {a b : Int} {rs : List Rd} (ht : okTs ts) (hs : okS (some a, some b) = true) (hr : okRs ts.length rs) (hf : ∃ x es, Fit ts (some a, some b) rs x es) {r : Rd} {i : Nat} (hi : rs[i]? = some r) :
    ndB ts (some a, some b) rs (r, i) = decide (pairsT ts a b (rs.take i ++ rs.drop (i + 1)) = pairsT ts a b rs) := by
  rw [Bool.eq_iff_iff, nd_iff ht hs hr hf hi, decide_eq_true_eq, ← drop_erase]
  have hd : okRs ts.length (dropAt rs i) := okRs_sub hr erase_sub
  have hmem : r ∈ rs := List.mem_of_getElem? hi
  constructor
  · intro h
    unfold pairsT
    apply List.filter_congr
    intro p hp
    have hp2 : p.1 ∈ rngT a b ∧ p.2 ∈ rowsT ts := mem_both.mp hp
    rw [Bool.eq_iff_iff]
    have e1 : ∀ rs', rdB p.1 p.2 rs' = true ↔ ∀ r ∈ rs', RdOk p.1 p.2 r := fun rs' => by simp [rdB, RdOk]
    rw [e1, e1]
    constructor
    · intro q r' hr'
      rcases erase_or hi r' hr' with h1 | rfl
      · exact q r' h1
      · exact h p.1 p.2 ((fit_iff hd _ _).mpr ⟨by rw [inS_ss]; exact mem_rng.mp hp2.1, (mem_rows _ _).mp hp2.2, q⟩)
    · intro q r' hr'
      exact q r' (erase_sub r' hr')
  · intro h x es f
    have h1 : (x, es) ∈ pairsT ts a b (dropAt rs i) := (mem_pairs hd (x, es)).mpr f
    rw [h] at h1
    exact ((fit_iff hr x es).mp ((mem_pairs hr _).mp h1)).2.2 r hmem
theorem nd_free {ts : List Tri} {a b : Int} {rs : List Rd} (ht : okTs ts) (hs : okS (some a, some b) = true) (hr : okRs ts.length rs) (hf : ∃ x es, Fit ts (some a, some b) rs x es) :
    ndT ts (some a, some b) rs = (List.range rs.length).filter fun i => decide (pairsT ts a b (rs.take i ++ rs.drop (i + 1)) = pairsT ts a b rs) := by
  unfold ndT
  have h1 : rs.zipIdx.filter (ndB ts (some a, some b) rs) = rs.zipIdx.filter ((fun i => decide (pairsT ts a b (rs.take i ++ rs.drop (i + 1)) = pairsT ts a b rs)) ∘ (·.2)) := by
    apply List.filter_congr
    rintro ⟨r, i⟩ hp
    obtain ⟨j, hj⟩ := List.getElem?_of_mem hp
    rw [List.getElem?_zipIdx] at hj
    have hi : rs[i]? = some r := by
      cases e : rs[j]? with
      | none => rw [e] at hj; cases hj
      | some r' =>
        rw [e] at hj
        simp at hj
        obtain ⟨rfl, rfl⟩ := hj
        exact e
    exact nd_pairs ht hs hr hf hi
  rw [h1, ← List.filter_map, List.zipIdx_map_snd, List.range_eq_range']
/-! ### two halves -/
def hullS (a b : S2) : S2 := ((match a.1, b.1 with | some x, some y => some (min x y) | _, _ => none), (match a.2, b.2 with | some x, some y => some (max x y) | _, _ => none))
theorem in_ext_lo {c : S2} (h : okS c = true) : (c.1 = none ↔ ∀ n : Int, ∃ y, y ≤ n ∧ inS c y) := by
  constructor
  · intro e n
    rcases c with ⟨_ | a, _ | b⟩ <;> simp at e ⊢
    · exact ⟨n, Int.le_refl _⟩
    · exact ⟨min n b, by omega, by omega⟩
  · intro q
    rcases c with ⟨_ | a, _ | b⟩
    · rfl
    · rfl
    · obtain ⟨y, h1, h2⟩ := q (a - 1)
      simp at h2
      omega
    · obtain ⟨y, h1, h2⟩ := q (a - 1)
      simp at h2
      omega
theorem hull_eq {a b c : S2} (ha : okS a = true) (hb : okS b = true) (hc : okS c = true) (h : ∀ y, inS c y ↔ inS a y ∨ inS b y) : c = hullS a b := by
  refine ext_S hc ?_ fun y => ?_
  · rcases a with ⟨_ | a1, _ | a2⟩ <;> rcases b with ⟨_ | b1, _ | b2⟩ <;> simp [hullS, okS] at ha hb ⊢ <;> omega
  · constructor
    · intro hy
      have := (h y).mp hy
      rcases a with ⟨_ | a1, _ | a2⟩ <;> rcases b with ⟨_ | b1, _ | b2⟩ <;> simp [hullS] at this ⊢ <;> omega
    · intro hy
      -- ends on both sides
      have lo : ∃ y1, y1 ≤ y ∧ (inS a y1 ∨ inS b y1) := by
        rcases a with ⟨_ | a1, _ | a2⟩ <;> rcases b with ⟨_ | b1, _ | b2⟩ <;> simp [hullS, okS] at hy ha hb ⊢
        all_goals first
          | exact ⟨y, by omega, by omega⟩
          | exact ⟨min y a2, by omega, by omega⟩
          | exact ⟨min y b2, by omega, by omega⟩
          | exact ⟨min a1 b1, by omega, by omega⟩
          | exact ⟨y, Int.le_refl _⟩
      have hi : ∃ y2, y ≤ y2 ∧ (inS a y2 ∨ inS b y2) := by
        rcases a with ⟨_ | a1, _ | a2⟩ <;> rcases b with ⟨_ | b1, _ | b2⟩ <;> simp [hullS, okS] at hy ha hb ⊢
        all_goals first
          | exact ⟨y, by omega, by omega⟩
          | exact ⟨max y a1, by omega, by omega⟩
          | exact ⟨max y b1, by omega, by omega⟩
          | exact ⟨max a2 b2, by omega, by omega⟩
          | exact ⟨y, Int.le_refl _⟩
      obtain ⟨y1, h1, h2⟩ := lo
      obtain ⟨y2, h3, h4⟩ := hi
      have h2 := (h y1).mpr h2
      have h4 := (h y2).mpr h4
      rcases c with ⟨_ | c1, _ | c2⟩ <;> simp at h2 h4 ⊢ <;> omega
/-- everything of the whole is of one of two parts -/
structure Parts (ts : List Tri) (s : S2) (ts1 : List Tri) (s1 : S2) (ts2 : List Tri) (s2 : S2) : Prop where
  l1 : ts1.length = ts.length
  l2 : ts2.length = ts.length
  w1 : ∀ (k : Nat) (t t1 : Tri), ts[k]? = some t → ts1[k]? = some t1 → t1.w = t.w
  w2 : ∀ (k : Nat) (t t1 : Tri), ts[k]? = some t → ts2[k]? = some t1 → t1.w = t.w
  all : ∀ x es, (inS s x ∧ fgT ts es = true) ↔ (inS s1 x ∧ fgT ts1 es = true) ∨ (inS s2 x ∧ fgT ts2 es = true)
theorem Parts.fit {ts ts1 ts2 : List Tri} {s s1 s2 : S2} (p : Parts ts s ts1 s1 ts2 s2) {rs : List Rd} (hr : okRs ts.length rs) (x : Int) (es : List Ev) : Fit ts s rs x es ↔ Fit ts1 s1 rs x es ∨ Fit ts2 s2 rs x es := by
  rw [fit_iff hr, fit_iff (by rw [p.l1]; exact hr), fit_iff (by rw [p.l2]; exact hr)]
  have := p.all x es
  constructor
  · rintro ⟨h1, h2, h3⟩
    rcases this.mp ⟨h1, h2⟩ with h | h
    · exact .inl ⟨h.1, h.2, h3⟩
    · exact .inr ⟨h.1, h.2, h3⟩
  · rintro (⟨h1, h2, h3⟩ | ⟨h1, h2, h3⟩)
    · have := this.mpr (.inl ⟨h1, h2⟩); exact ⟨this.1, this.2, h3⟩
    · have := this.mpr (.inr ⟨h1, h2⟩); exact ⟨this.1, this.2, h3⟩
/-- what is told, where something goes with all: levels and numbers -/
structure Lv (ts : List Tri) (s : S2) (rs : List Rd) (ls ns : List S2) : Prop where
  ex : ∃ x es, Fit ts s rs x es
  ll : ls.length = ts.length + 1
  nl : ns.length = ts.length
  lv : ∀ (i : Nat) (z : S2), ls[i]? = some z → okS z = true ∧ ∀ y, inS z y ↔ ∃ x es, Fit ts s rs x es ∧ (levT x es)[i]? = some y
  nm : ∀ (k : Nat) (z : S2) (t : Tri), ns[k]? = some z → ts[k]? = some t → okS z = true ∧ ∀ v, inS z v ↔ ∃ x es, Fit ts s rs x es ∧ es[k]? = some (t.w, v)
theorem Lv.same {ts ts1 : List Tri} {s s1 : S2} {rs rs1 : List Rd} {ls ns ls1 ns1 : List S2} (a : Lv ts s rs ls ns) (b : Lv ts1 s1 rs1 ls1 ns1) (hl : ts1.length = ts.length) (hw : ∀ (k : Nat) (t t1 : Tri), ts[k]? = some t → ts1[k]? = some t1 → t1.w = t.w)
    (h : ∀ x es, Fit ts s rs x es ↔ Fit ts1 s1 rs1 x es) : ls = ls1 ∧ ns = ns1 := by
  constructor
  · apply List.ext_getElem
    · rw [a.ll, b.ll, hl]
    · intro i h1 h2
      obtain ⟨o1, e1⟩ := a.lv i _ (List.getElem?_eq_getElem h1)
      obtain ⟨o2, e2⟩ := b.lv i _ (List.getElem?_eq_getElem h2)
      refine ext_S o1 o2 fun y => ?_
      rw [e1, e2]
      simp only [h]
  · apply List.ext_getElem
    · rw [a.nl, b.nl, hl]
    · intro i h1 h2
      have g1 : i < ts.length := by rw [← a.nl]; exact h1
      have g2 : i < ts1.length := by rw [← b.nl]; exact h2
      obtain ⟨o1, e1⟩ := a.nm i _ ts[i] (List.getElem?_eq_getElem h1) (List.getElem?_eq_getElem g1)
      obtain ⟨o2, e2⟩ := b.nm i _ ts1[i] (List.getElem?_eq_getElem h2) (List.getElem?_eq_getElem g2)
      refine ext_S o1 o2 fun y => ?_
      rw [e1, e2, hw i _ _ (List.getElem?_eq_getElem g1) (List.getElem?_eq_getElem g2)]
      simp only [h]
theorem Lv.hull {ts ts1 ts2 : List Tri} {s s1 s2 : S2} {rs : List Rd} {ls ns ls1 ns1 ls2 ns2 : List S2} (p : Parts ts s ts1 s1 ts2 s2) (hr : okRs ts.length rs) (c : Lv ts s rs ls ns) (a : Lv ts1 s1 rs ls1 ns1) (b : Lv ts2 s2 rs ls2 ns2) :
    ls = List.zipWith hullS ls1 ls2 ∧ ns = List.zipWith hullS ns1 ns2 := by
  have hfit := p.fit hr
  constructor
  · apply List.ext_getElem
    · rw [List.length_zipWith, c.ll, a.ll, b.ll, p.l1, p.l2, Nat.min_self]
    · intro i h1 h2
      rw [List.length_zipWith] at h2
      have g1 : i < ls1.length := by omega
      have g2 : i < ls2.length := by omega
      rw [List.getElem_zipWith]
      obtain ⟨o1, e1⟩ := c.lv i _ (List.getElem?_eq_getElem h1)
      obtain ⟨o2, e2⟩ := a.lv i _ (List.getElem?_eq_getElem g1)
      obtain ⟨o3, e3⟩ := b.lv i _ (List.getElem?_eq_getElem g2)
      refine hull_eq o2 o3 o1 fun y => ?_
      rw [e1, e2, e3]
      simp only [hfit]
      constructor
      · rintro ⟨x, es, h | h, q⟩
        · exact .inl ⟨x, es, h, q⟩
        · exact .inr ⟨x, es, h, q⟩
      · rintro (⟨x, es, h, q⟩ | ⟨x, es, h, q⟩)
        · exact ⟨x, es, .inl h, q⟩
        · exact ⟨x, es, .inr h, q⟩
  · apply List.ext_getElem
    · rw [List.length_zipWith, c.nl, a.nl, b.nl, p.l1, p.l2, Nat.min_self]
    · intro i h1 h2
      rw [List.length_zipWith] at h2
      have g1 : i < ns1.length := by omega
      have g2 : i < ns2.length := by omega
      have t0 : i < ts.length := by rw [← c.nl]; exact h1
      have t1 : i < ts1.length := by rw [← a.nl]; exact g1
      have t2 : i < ts2.length := by rw [← b.nl]; exact g2
      rw [List.getElem_zipWith]
      obtain ⟨o1, e1⟩ := c.nm i _ ts[i] (List.getElem?_eq_getElem h1) (List.getElem?_eq_getElem t0)
      obtain ⟨o2, e2⟩ := a.nm i _ ts1[i] (List.getElem?_eq_getElem g1) (List.getElem?_eq_getElem t1)
      obtain ⟨o3, e3⟩ := b.nm i _ ts2[i] (List.getElem?_eq_getElem g2) (List.getElem?_eq_getElem t2)
      refine hull_eq o2 o3 o1 fun y => ?_
      rw [e1, e2, e3, p.w1 i _ _ (List.getElem?_eq_getElem t0) (List.getElem?_eq_getElem t1), p.w2 i _ _ (List.getElem?_eq_getElem t0) (List.getElem?_eq_getElem t2)]
      simp only [hfit]
      constructor
      · rintro ⟨x, es, h | h, q⟩
        · exact .inl ⟨x, es, h, q⟩
        · exact .inr ⟨x, es, h, q⟩
      · rintro (⟨x, es, h, q⟩ | ⟨x, es, h, q⟩)
        · exact ⟨x, es, .inl h, q⟩
        · exact ⟨x, es, .inr h, q⟩
theorem FW.parts {ts ts1 ts2 : List Tri} {s s1 s2 : S2} {rs : List Rd} (p : Parts ts s ts1 s1 ts2 s2) (hr : okRs ts.length rs) {o1 o2 : Option Int} (h1 : FW ts1 s1 rs o1) (h2 : FW ts2 s2 rs o2) :
    FW ts s rs (match o1, o2 with | some a, some b => some (max a b) | _, _ => none) := by
  have nf : ∀ m, NoFit ts s (leT rs m) ↔ NoFit ts1 s1 (leT rs m) ∧ NoFit ts2 s2 (leT rs m) := fun m => by
    have hf := p.fit (okRs_sub hr (le_sub (m := m)))
    constructor
    · intro h; exact ⟨fun x es f => h x es ((hf x es).mpr (.inl f)), fun x es f => h x es ((hf x es).mpr (.inr f))⟩
    · rintro ⟨h1, h2⟩ x es f
      rcases (hf x es).mp f with f | f
      · exact h1 x es f
      · exact h2 x es f
  have hr1 : okRs ts1.length rs := by rw [p.l1]; exact hr
  have hr2 : okRs ts2.length rs := by rw [p.l2]; exact hr
  cases o1 with
  | none => exact fun m z => h1 m ((nf m).mp z).1
  | some a => cases o2 with
    | none => exact fun m z => h2 m ((nf m).mp z).2
    | some b =>
      refine ⟨(nf _).mpr ⟨noFit_up hr1 (by omega) h1.1, noFit_up hr2 (by omega) h2.1⟩, fun m hm z => ?_⟩
      by_cases q : a ≤ b
      · exact h2.2 m (by omega) ((nf m).mp z).2
      · exact h1.2 m (by omega) ((nf m).mp z).1
/-- the levels and numbers that are told -/
theorem lv_ex {ts : List Tri} {s : S2} {rs : List Rd} (ht : okTs ts) (hs : okS s = true) (hf : ∃ x es, Fit ts s rs x es) : ∃ ls ns, levL ts s rs = ls.map some ∧ ts.zipIdx.map (numAt ts s rs) = ns.map some ∧ Lv ts s rs ls ns := by
  obtain ⟨ls, h1, h2, h3⟩ := lev_list (rs := rs) ht hs hf
  have hall : ∀ (k : Nat) (t : Tri), ts[k]? = some t → ∃ z, numAt ts s rs (t, k) = some z ∧ okS z = true ∧ ∀ v, inS z v ↔ ∃ x es, Fit ts s rs x es ∧ es[k]? = some (t.w, v) := fun k t hk => num_at ht hs hf hk
  let ns : List S2 := ts.zipIdx.map fun p => (numAt ts s rs p).getD (none, none)
  have e : ts.zipIdx.map (numAt ts s rs) = ns.map some := by
    rw [List.map_map]
    apply List.map_congr_left
    rintro ⟨t, i⟩ hp
    obtain ⟨j, hj⟩ := List.getElem?_of_mem hp
    rw [List.getElem?_zipIdx] at hj
    cases e : ts[j]? with
    | none => rw [e] at hj; cases hj
    | some t' =>
      rw [e] at hj
      simp at hj
      obtain ⟨rfl, rfl⟩ := hj
      obtain ⟨z, hz, _⟩ := hall j t' e
      simp [hz]
  refine ⟨ls, ns, h1, e, hf, h2, by simp [ns], h3, fun k z t hk ht' => ?_⟩
  obtain ⟨z', hz, h4, h5⟩ := hall k t ht'
  have : ns[k]? = some z' := by
    simp only [ns, List.getElem?_map, List.getElem?_zipIdx, ht']
    simp [hz]
  rw [this] at hk
  cases hk
  exact ⟨h4, h5⟩
/-! ### finite ones -/
def finS (s : S2) : Prop := ∃ a b, s = (some a, some b)
theorem Lv.fin {ts : List Tri} {a b : Int} {rs : List Rd} {ls ns : List S2} (h : Lv ts (some a, some b) rs ls ns) {i : Nat} {z : S2} (hz : ls[i]? = some z) : finS z := by
  have fits : ∀ (i : Nat) (ts : List Tri), ∃ lo hi : Int, ∀ (m : Nat) (x : Int) (es : List Ev) (y : Int), a ≤ x → x ≤ b → FitFrom rs m ts x es → (levT x es)[i]? = some y → lo ≤ y ∧ y ≤ hi := by
    suffices ∀ (i : Nat) (ts : List Tri) (a b : Int), ∃ lo hi : Int, ∀ (m : Nat) (x : Int) (es : List Ev) (y : Int), a ≤ x → x ≤ b → FitFrom rs m ts x es → (levT x es)[i]? = some y → lo ≤ y ∧ y ≤ hi from fun i ts => this i ts a b
    intro i
    induction i with
    | zero =>
      intro ts a b
      refine ⟨a, b, fun m x es y h1 h2 _ h3 => ?_⟩
      have : x = y := by cases es <;> simpa [levT] using h3
      omega
    | succ i ih =>
      intro ts a b
      cases ts with
      | nil =>
        refine ⟨0, 0, fun m x es y h1 h2 f h3 => ?_⟩
        cases es with
        | nil => simp [levT] at h3
        | cons e es => exact f.elim
      | cons t ts =>
        obtain ⟨lo, hi, q⟩ := ih ts (min a t.l - (if 0 ≤ t.l then 0 else -t.l) - (if 0 ≤ a then 0 else -a)) (max b t.h + (if t.h ≤ 0 then 0 else t.h) + (if b ≤ 0 then 0 else b))
        refine ⟨lo, hi, fun m x es y h1 h2 f h3 => ?_⟩
        cases es with
        | nil => exact f.elim
        | cons e es =>
          obtain ⟨_, ⟨hw, hl, hh⟩, f2⟩ := f
          rcases e with ⟨w, k⟩
          simp only at hl hh
          refine q (m + 1) (behT x (w, k)) es y ?_ ?_ f2 (by simpa [levT] using h3)
          · cases w <;> simp only [behT] <;> split <;> split <;> omega
          · cases w <;> simp only [behT] <;> split <;> split <;> omega
  obtain ⟨ok, hm⟩ := h.lv i z hz
  obtain ⟨lo, hi, q⟩ := fits i ts
  have bd : ∀ y, inS z y → lo ≤ y ∧ y ≤ hi := fun y hy => by
    obtain ⟨x, es, f, e⟩ := (hm y).mp hy
    have := f.1
    rw [inS_ss] at this
    exact q 0 x es y this.1 this.2 f.2 e
  rcases z with ⟨_ | z1, _ | z2⟩
  · have := bd (hi + 1) (by simp); omega
  · have := bd (min z2 (lo - 1)) (by simp; omega); omega
  · have := bd (max z1 (hi + 1)) (by simp; omega); omega
  · exact ⟨z1, z2, rfl⟩
end RF.L
set_option maxRecDepth 100000
set_option maxHeartbeats 0
namespace RF.L
open PySem PySem.Spec L2 RF
def top (i : Nat) : Stmt := PySem.Challenge.pw_boundedlevels_k95_main_what_readings_tel.main.body.getD i (.Pass ⟨0, 0, 0, 0⟩)
def k_ADD : D := .str "add"
def k_FLOOR : D := .str "floor"
def k_CAP : D := .str "cap"
def k_WORDS : D := .tup [.str "add", .str "floor", .str "cap"]
def k_EVERY : D := .tup [.non, .non]
/-! ### is_number -/
def S_is_number : SC := ⟨["value"], defScope (top 5), fun _ => true, [], [], ["bool", "int", "isinstance"]⟩
def b_is_number : SDen :=
    (C.ret (C.vand (C.un (O.isi1 .int) (C.var 0)) (C.vnot (C.un (O.isi1 .bool) (C.var 0)))))
theorem c_is_number : (compB 40 20 (S_is_number) (defBody (top 5))).map (·.1) = some (b_is_number) := by kernel_rfl
def d_is_number : List SV → CRes := C.body 1 1 b_is_number
/-! ### is_event -/
def S_is_event : SC := ⟨["thing"], defScope (top 6), fun _ => true, [("is_number", ⟨1, d_is_number, []⟩)], [("WORDS", k_WORDS)], ["isinstance", "len", "str", "tuple"]⟩
def b_is_event : SDen :=
    (C.seq (C.ifS (C.tor (C.tnot (C.tru (C.un (O.isi1 .tuple) (C.var 0)))) (C.tor (C.tv (C.bin O.ne (C.call O.len (C.acons (C.var 0) C.anil)) (C.const (.int (2))))) (C.tnot (C.tru (C.un (O.isi1 .str) (C.bin O.ix (C.var 0) (C.const (.int (0))))))))) (C.ret (C.const (.bl false))) C.pass)
    (C.ret (C.vand (C.bin O.isin (C.bin O.ix (C.var 0) (C.const (.int (0)))) (C.const k_WORDS)) (C.ucallM [] d_is_number (C.acons (C.bin O.ix (C.var 0) (C.const (.int (1)))) C.anil)))))
theorem c_is_event : (compB 40 20 (S_is_event) (defBody (top 6))).map (·.1) = some (b_is_event) := by kernel_rfl
def d_is_event : List SV → CRes := C.body 1 1 b_is_event
/-! ### is_row -/
def S_is_row : SC := ⟨["thing", "event"], defScope (top 7), fun _ => true, [("is_event", ⟨1, d_is_event, []⟩)], [], ["all", "isinstance", "tuple"]⟩
def b_is_row : SDen :=
    (C.ret (C.vand (C.un (O.isi1 .tuple) (C.var 0)) (C.call O.all (C.acons (C.lc (C.iter (C.var 0)) (C.gname 1) C.tyes (C.ucallM [] d_is_event (C.acons (C.var 1) C.anil)) [1]) C.anil))))
theorem c_is_row : (compB 40 20 (S_is_row) (defBody (top 7))).map (·.1) = some (b_is_row) := by kernel_rfl
def d_is_row : List SV → CRes := C.body 1 2 b_is_row
/-! ### behind -/
def S_behind : SC := ⟨["level", "event"], defScope (top 8), fun _ => true, [], [("ADD", k_ADD), ("FLOOR", k_FLOOR)], ["max", "min"]⟩
def b_behind : SDen :=
    (C.seq (C.ifS (C.tv (C.bin O.eq (C.bin O.ix (C.var 1) (C.const (.int (0)))) (C.const k_ADD))) (C.ret (C.bin O.add (C.var 0) (C.bin O.ix (C.var 1) (C.const (.int (1)))))) C.pass)
    (C.ret (C.ite (C.tv (C.bin O.eq (C.bin O.ix (C.var 1) (C.const (.int (0)))) (C.const k_FLOOR))) (C.call O.max2 (C.acons (C.var 0) (C.acons (C.bin O.ix (C.var 1) (C.const (.int (1)))) C.anil))) (C.call O.min2 (C.acons (C.var 0) (C.acons (C.bin O.ix (C.var 1) (C.const (.int (1)))) C.anil))))))
theorem c_behind : (compB 40 20 (S_behind) (defBody (top 8))).map (·.1) = some (b_behind) := by kernel_rfl
def d_behind : List SV → CRes := C.body 2 2 b_behind
/-! ### levels_of -/
def S_levels_of : SC := ⟨["row", "start", "levels", "event"], defScope (top 10), fun _ => true, [("behind", ⟨2, d_behind, []⟩)], [], []⟩
def b_levels_of : SDen :=
    (C.seq (C.set 2 (C.lst (C.acons (C.var 1) C.anil)))
    (C.seq (C.forS (C.gname 3) (C.iter (C.var 0)) (C.drop (C.mcall M.append 2 (C.acons (C.ucallM [] d_behind (C.acons (C.bin O.ix (C.var 2) (C.un O.neg (C.const (.int (1))))) (C.acons (C.var 3) C.anil))) C.anil))))
    (C.ret (C.var 2))))
theorem c_levels_of : (compB 40 20 (S_levels_of) (defBody (top 10))).map (·.1) = some (b_levels_of) := by kernel_rfl
def d_levels_of : List SV → CRes := C.body 2 4 b_levels_of
/-! ### is_triple -/
def S_is_triple : SC := ⟨["thing"], defScope (top 13), fun _ => true, [("is_number", ⟨1, d_is_number, []⟩)], [("WORDS", k_WORDS)], ["isinstance", "len", "str", "tuple"]⟩
def b_is_triple : SDen :=
    (C.seq (C.ifS (C.tor (C.tnot (C.tru (C.un (O.isi1 .tuple) (C.var 0)))) (C.tor (C.tv (C.bin O.ne (C.call O.len (C.acons (C.var 0) C.anil)) (C.const (.int (3))))) (C.tnot (C.tru (C.un (O.isi1 .str) (C.bin O.ix (C.var 0) (C.const (.int (0))))))))) (C.ret (C.const (.bl false))) C.pass)
    (C.ret (C.vand (C.bin O.isin (C.bin O.ix (C.var 0) (C.const (.int (0)))) (C.const k_WORDS)) (C.vand (C.ucallM [] d_is_number (C.acons (C.bin O.ix (C.var 0) (C.const (.int (1)))) C.anil)) (C.vand (C.ucallM [] d_is_number (C.acons (C.bin O.ix (C.var 0) (C.const (.int (2)))) C.anil)) (C.bin O.le (C.bin O.ix (C.var 0) (C.const (.int (1)))) (C.bin O.ix (C.var 0) (C.const (.int (2))))))))))
theorem c_is_triple : (compB 40 20 (S_is_triple) (defBody (top 13))).map (·.1) = some (b_is_triple) := by kernel_rfl
def d_is_triple : List SV → CRes := C.body 1 1 b_is_triple
/-! ### is_guess -/
def S_is_guess : SC := ⟨["thing", "part"], defScope (top 14), fun _ => true, [("is_triple", ⟨1, d_is_triple, []⟩)], [], ["all", "isinstance", "tuple"]⟩
def b_is_guess : SDen :=
    (C.ret (C.vand (C.un (O.isi1 .tuple) (C.var 0)) (C.call O.all (C.acons (C.lc (C.iter (C.var 0)) (C.gname 1) C.tyes (C.ucallM [] d_is_triple (C.acons (C.var 1) C.anil)) [1]) C.anil))))
theorem c_is_guess : (compB 40 20 (S_is_guess) (defBody (top 14))).map (·.1) = some (b_is_guess) := by kernel_rfl
def d_is_guess : List SV → CRes := C.body 1 2 b_is_guess
/-! ### fits_guess -/
def S_fits_guess : SC := ⟨["guess", "row", "word", "low", "high", "own", "number"], defScope (top 15), fun _ => true, [], [], ["all", "len", "zip"]⟩
def b_fits_guess : SDen :=
    (C.seq (C.ifS (C.tv (C.bin O.ne (C.call O.len (C.acons (C.var 0) C.anil)) (C.call O.len (C.acons (C.var 1) C.anil)))) (C.ret (C.const (.bl false))) C.pass)
    (C.ret (C.call O.all (C.acons (C.lc (C.iterA W.zip (C.acons (C.var 0) (C.acons (C.var 1) C.anil))) (C.gtup 2 (C.gcons (C.gtup 3 (C.gcons (C.gname 2) (C.gcons (C.gname 3) (C.gcons (C.gname 4) C.gnil)))) (C.gcons (C.gtup 2 (C.gcons (C.gname 5) (C.gcons (C.gname 6) C.gnil))) C.gnil))) C.tyes (C.vand (C.bin O.eq (C.var 2) (C.var 5)) (C.chain O.le O.le (C.var 3) (C.var 6) (C.var 4))) [2, 3, 4, 5, 6]) C.anil))))
theorem c_fits_guess : (compB 40 20 (S_fits_guess) (defBody (top 15))).map (·.1) = some (b_fits_guess) := by kernel_rfl
def d_fits_guess : List SV → CRes := C.body 2 7 b_fits_guess
/-! ### is_in -/
def S_is_in : SC := ⟨["stretch", "level"], defScope (top 16), fun _ => true, [], [], []⟩
def b_is_in : SDen :=
    (C.ret (C.vand (C.vor (C.bin O.isN (C.bin O.ix (C.var 0) (C.const (.int (0)))) (C.const (.non))) (C.bin O.le (C.bin O.ix (C.var 0) (C.const (.int (0)))) (C.var 1))) (C.vor (C.bin O.isN (C.bin O.ix (C.var 0) (C.const (.int (1)))) (C.const (.non))) (C.bin O.le (C.var 1) (C.bin O.ix (C.var 0) (C.const (.int (1))))))))
theorem c_is_in : (compB 40 20 (S_is_in) (defBody (top 16))).map (·.1) = some (b_is_in) := by kernel_rfl
def d_is_in : List SV → CRes := C.body 2 2 b_is_in
/-! ### goes_with -/
def S_goes_with : SC := ⟨["guess", "starts", "readings", "thing", "levels", "moment", "level"], defScope (top 17), fun _ => true, [("levels_of", ⟨2, d_levels_of, []⟩), ("fits_guess", ⟨2, d_fits_guess, []⟩), ("is_in", ⟨2, d_is_in, []⟩), ("is_row", ⟨1, d_is_row, []⟩), ("is_number", ⟨1, d_is_number, []⟩)], [], ["all", "isinstance", "len", "tuple"]⟩
def b_goes_with : SDen :=
    (C.seq (C.ifS (C.tor (C.tnot (C.tru (C.un (O.isi1 .tuple) (C.var 3)))) (C.tor (C.tv (C.bin O.ne (C.call O.len (C.acons (C.var 3) C.anil)) (C.const (.int (2))))) (C.tor (C.tnot (C.tru (C.ucallM [] d_is_number (C.acons (C.bin O.ix (C.var 3) (C.const (.int (0)))) C.anil)))) (C.tnot (C.tru (C.ucallM [] d_is_row (C.acons (C.bin O.ix (C.var 3) (C.const (.int (1)))) C.anil))))))) (C.ret (C.const (.bl false))) C.pass)
    (C.seq (C.ifS (C.tor (C.tnot (C.tru (C.ucallM [] d_is_in (C.acons (C.var 1) (C.acons (C.bin O.ix (C.var 3) (C.const (.int (0)))) C.anil))))) (C.tnot (C.tru (C.ucallM [] d_fits_guess (C.acons (C.var 0) (C.acons (C.bin O.ix (C.var 3) (C.const (.int (1)))) C.anil)))))) (C.ret (C.const (.bl false))) C.pass)
    (C.seq (C.set 4 (C.ucallM [] d_levels_of (C.acons (C.bin O.ix (C.var 3) (C.const (.int (1)))) (C.acons (C.bin O.ix (C.var 3) (C.const (.int (0)))) C.anil))))
    (C.ret (C.call O.all (C.acons (C.lc (C.iter (C.var 2)) (C.gtup 2 (C.gcons (C.gname 5) (C.gcons (C.gname 6) C.gnil))) C.tyes (C.bin O.eq (C.bin O.ix (C.var 4) (C.var 5)) (C.var 6)) [5, 6]) C.anil))))))
theorem c_goes_with : (compB 40 20 (S_goes_with) (defBody (top 17))).map (·.1) = some (b_goes_with) := by kernel_rfl
def d_goes_with : List SV → CRes := C.body 4 7 b_goes_with
/-! ### common -/
def S_common : SC := ⟨["one", "other", "lows", "highs", "part"], defScope (top 18), fun _ => true, [], [], ["len", "max", "min"]⟩
def b_common : SDen :=
    (C.seq (C.ifS (C.tor (C.tv (C.bin O.isN (C.var 0) (C.const (.non)))) (C.tv (C.bin O.isN (C.var 1) (C.const (.non))))) (C.ret (C.const (.non))) C.pass)
    (C.seq (C.set 2 (C.lc (C.iter (C.tup (C.acons (C.var 0) (C.acons (C.var 1) C.anil)))) (C.gname 4) (C.tv (C.bin O.notN (C.bin O.ix (C.var 4) (C.const (.int (0)))) (C.const (.non)))) (C.bin O.ix (C.var 4) (C.const (.int (0)))) [4]))
    (C.seq (C.set 3 (C.lc (C.iter (C.tup (C.acons (C.var 0) (C.acons (C.var 1) C.anil)))) (C.gname 4) (C.tv (C.bin O.notN (C.bin O.ix (C.var 4) (C.const (.int (1)))) (C.const (.non)))) (C.bin O.ix (C.var 4) (C.const (.int (1)))) [4]))
    (C.seq (C.ifS (C.tand (C.tv (C.bin O.gt (C.call O.len (C.acons (C.var 2) C.anil)) (C.const (.int (0))))) (C.tand (C.tv (C.bin O.gt (C.call O.len (C.acons (C.var 3) C.anil)) (C.const (.int (0))))) (C.tv (C.bin O.gt (C.call O.max2 (C.acons (C.var 2) C.anil)) (C.call O.min2 (C.acons (C.var 3) C.anil)))))) (C.ret (C.const (.non))) C.pass)
    (C.ret (C.tup (C.acons (C.ite (C.tv (C.bin O.gt (C.call O.len (C.acons (C.var 2) C.anil)) (C.const (.int (0))))) (C.call O.max2 (C.acons (C.var 2) C.anil)) (C.const (.non))) (C.acons (C.ite (C.tv (C.bin O.gt (C.call O.len (C.acons (C.var 3) C.anil)) (C.const (.int (0))))) (C.call O.min2 (C.acons (C.var 3) C.anil)) (C.const (.non))) C.anil))))))))
theorem c_common : (compB 40 20 (S_common) (defBody (top 18))).map (·.1) = some (b_common) := by kernel_rfl
def d_common : List SV → CRes := C.body 2 5 b_common
/-! ### more_by -/
def S_more_by : SC := ⟨["bound", "number"], defScope (top 19), fun _ => true, [], [], []⟩
def b_more_by : SDen :=
    (C.ret (C.ite (C.tv (C.bin O.isN (C.var 0) (C.const (.non)))) (C.const (.non)) (C.bin O.add (C.var 0) (C.var 1))))
theorem c_more_by : (compB 40 20 (S_more_by) (defBody (top 19))).map (·.1) = some (b_more_by) := by kernel_rfl
def d_more_by : List SV → CRes := C.body 2 2 b_more_by
/-! ### turned -/
def S_turned : SC := ⟨["stretch", "bound"], defScope (top 20), fun _ => true, [], [], ["tuple"]⟩
def b_turned : SDen :=
    (C.ret (C.call O.tuple (C.acons (C.lc (C.iter (C.un O.backw (C.var 0))) (C.gname 1) C.tyes (C.ite (C.tv (C.bin O.isN (C.var 1) (C.const (.non)))) (C.const (.non)) (C.un O.neg (C.var 1))) [1]) C.anil)))
theorem c_turned : (compB 40 20 (S_turned) (defBody (top 20))).map (·.1) = some (b_turned) := by kernel_rfl
def d_turned : List SV → CRes := C.body 1 2 b_turned
/-! ### turned_about -/
def S_turned_about : SC := ⟨["triple"], defScope (top 21), fun _ => true, [], [("FLOOR", k_FLOOR)], []⟩
def b_turned_about : SDen :=
    (C.ret (C.tup (C.acons (C.const k_FLOOR) (C.acons (C.un O.neg (C.bin O.ix (C.var 0) (C.const (.int (2))))) (C.acons (C.un O.neg (C.bin O.ix (C.var 0) (C.const (.int (1))))) C.anil)))))
theorem c_turned_about : (compB 40 20 (S_turned_about) (defBody (top 21))).map (·.1) = some (b_turned_about) := by kernel_rfl
def d_turned_about : List SV → CRes := C.body 1 1 b_turned_about
/-! ### ahead_of -/
def S_ahead_of (self : List SV → CRes) : SC := ⟨["stretch", "triple", "least", "word", "low", "high"], defScope (top 22), fun _ => true, [("turned", ⟨1, d_turned, []⟩), ("ahead_of", ⟨2, self, []⟩), ("turned_about", ⟨1, d_turned_about, []⟩), ("more_by", ⟨2, d_more_by, []⟩)], [("ADD", k_ADD), ("FLOOR", k_FLOOR)], ["max"]⟩
def b_ahead_of (self : List SV → CRes) : SDen :=
    (C.seq (C.asg (C.gtup 3 (C.gcons (C.gname 3) (C.gcons (C.gname 4) (C.gcons (C.gname 5) C.gnil)))) (C.var 1))
    (C.seq (C.ifS (C.tv (C.bin O.eq (C.var 3) (C.const k_ADD))) (C.ret (C.tup (C.acons (C.ucallM [] d_more_by (C.acons (C.bin O.ix (C.var 0) (C.const (.int (0)))) (C.acons (C.var 4) C.anil))) (C.acons (C.ucallM [] d_more_by (C.acons (C.bin O.ix (C.var 0) (C.const (.int (1)))) (C.acons (C.var 5) C.anil))) C.anil)))) C.pass)
    (C.seq (C.ifS (C.tv (C.bin O.ne (C.var 3) (C.const k_FLOOR))) (C.ret (C.ucallM [] d_turned (C.acons (C.ucallM [] self (C.acons (C.ucallM [] d_turned (C.acons (C.var 0) C.anil)) (C.acons (C.ucallM [] d_turned_about (C.acons (C.var 1) C.anil)) C.anil))) C.anil))) C.pass)
    (C.seq (C.set 2 (C.ite (C.tv (C.bin O.isN (C.bin O.ix (C.var 0) (C.const (.int (0)))) (C.const (.non)))) (C.var 4) (C.call O.max2 (C.acons (C.bin O.ix (C.var 0) (C.const (.int (0)))) (C.acons (C.var 4) C.anil)))))
    (C.ret (C.tup (C.acons (C.var 2) (C.acons (C.ite (C.tv (C.bin O.isN (C.bin O.ix (C.var 0) (C.const (.int (1)))) (C.const (.non)))) (C.const (.non)) (C.call O.max2 (C.acons (C.bin O.ix (C.var 0) (C.const (.int (1)))) (C.acons (C.var 5) C.anil)))) C.anil))))))))
theorem c_ahead_of (self : List SV → CRes) : (compB 40 20 (S_ahead_of self) (defBody (top 22))).map (·.1) = some (b_ahead_of self) := by kernel_rfl
def d_ahead_of : Nat → List SV → CRes
  | 0 => fun _ => .fail
  | n + 1 => C.body 2 6 (b_ahead_of (d_ahead_of n))
/-! ### back_of -/
def S_back_of (self : List SV → CRes) : SC := ⟨["stretch", "triple", "word", "low", "high", "found"], defScope (top 23), fun _ => true, [("turned", ⟨1, d_turned, []⟩), ("back_of", ⟨2, self, []⟩), ("turned_about", ⟨1, d_turned_about, []⟩), ("more_by", ⟨2, d_more_by, []⟩)], [("ADD", k_ADD), ("FLOOR", k_FLOOR)], []⟩
def b_back_of (self : List SV → CRes) : SDen :=
    (C.seq (C.ifS (C.tv (C.bin O.isN (C.var 0) (C.const (.non)))) (C.ret (C.const (.non))) C.pass)
    (C.seq (C.asg (C.gtup 3 (C.gcons (C.gname 2) (C.gcons (C.gname 3) (C.gcons (C.gname 4) C.gnil)))) (C.var 1))
    (C.seq (C.ifS (C.tv (C.bin O.eq (C.var 2) (C.const k_ADD))) (C.ret (C.tup (C.acons (C.ucallM [] d_more_by (C.acons (C.bin O.ix (C.var 0) (C.const (.int (0)))) (C.acons (C.un O.neg (C.var 4)) C.anil))) (C.acons (C.ucallM [] d_more_by (C.acons (C.bin O.ix (C.var 0) (C.const (.int (1)))) (C.acons (C.un O.neg (C.var 3)) C.anil))) C.anil)))) C.pass)
    (C.seq (C.ifS (C.tv (C.bin O.ne (C.var 2) (C.const k_FLOOR))) (C.seq (C.set 5 (C.ucallM [] self (C.acons (C.ucallM [] d_turned (C.acons (C.var 0) C.anil)) (C.acons (C.ucallM [] d_turned_about (C.acons (C.var 1) C.anil)) C.anil))))
    (C.ret (C.ite (C.tv (C.bin O.isN (C.var 5) (C.const (.non)))) (C.const (.non)) (C.ucallM [] d_turned (C.acons (C.var 5) C.anil))))) C.pass)
    (C.seq (C.ifS (C.tand (C.tv (C.bin O.notN (C.bin O.ix (C.var 0) (C.const (.int (1)))) (C.const (.non)))) (C.tv (C.bin O.gt (C.var 3) (C.bin O.ix (C.var 0) (C.const (.int (1))))))) (C.ret (C.const (.non))) C.pass)
    (C.ret (C.ite (C.tor (C.tv (C.bin O.isN (C.bin O.ix (C.var 0) (C.const (.int (0)))) (C.const (.non)))) (C.tv (C.bin O.ge (C.var 4) (C.bin O.ix (C.var 0) (C.const (.int (0))))))) (C.tup (C.acons (C.const (.non)) (C.acons (C.bin O.ix (C.var 0) (C.const (.int (1)))) C.anil))) (C.var 0))))))))
theorem c_back_of (self : List SV → CRes) : (compB 40 20 (S_back_of self) (defBody (top 23))).map (·.1) = some (b_back_of self) := by kernel_rfl
def d_back_of : Nat → List SV → CRes
  | 0 => fun _ => .fail
  | n + 1 => C.body 2 6 (b_back_of (d_back_of n))
/-! ### read_at -/
def S_read_at : SC := ⟨["readings", "moment", "found", "at", "level"], defScope (top 24), fun _ => true, [("common", ⟨2, d_common, []⟩)], [("EVERY", k_EVERY)], []⟩
def b_read_at : SDen :=
    (C.seq (C.set 2 (C.const k_EVERY))
    (C.seq (C.forS (C.gtup 2 (C.gcons (C.gname 3) (C.gcons (C.gname 4) C.gnil))) (C.iter (C.var 0)) (C.ifS (C.tv (C.bin O.eq (C.var 3) (C.var 1))) (C.set 2 (C.ucallM [] d_common (C.acons (C.var 2) (C.acons (C.tup (C.acons (C.var 4) (C.acons (C.var 4) C.anil))) C.anil)))) C.pass))
    (C.ret (C.var 2))))
theorem c_read_at : (compB 40 20 (S_read_at) (defBody (top 24))).map (·.1) = some (b_read_at) := by kernel_rfl
def d_read_at : List SV → CRes := C.body 2 5 b_read_at
/-! ### ways_on -/
def S_ways_on : SC := ⟨["guess", "starts", "readings", "found", "place", "triple", "later"], defScope (top 25), fun _ => true, [("common", ⟨2, d_common, []⟩), ("read_at", ⟨2, d_read_at, []⟩), ("ahead_of", ⟨2, (d_ahead_of 3), []⟩)], [], ["enumerate", "tuple"]⟩
def b_ways_on : SDen :=
    (C.seq (C.set 3 (C.lst (C.acons (C.ucallM [] d_common (C.acons (C.call O.tuple (C.acons (C.var 1) C.anil)) (C.acons (C.ucallM [] d_read_at (C.acons (C.var 2) (C.acons (C.const (.int (0))) C.anil))) C.anil))) C.anil)))
    (C.seq (C.forS (C.gtup 2 (C.gcons (C.gname 4) (C.gcons (C.gname 5) C.gnil))) (C.iterA W.enum (C.acons (C.var 0) C.anil)) (C.seq (C.set 6 (C.ite (C.tv (C.bin O.isN (C.bin O.ix (C.var 3) (C.un O.neg (C.const (.int (1))))) (C.const (.non)))) (C.const (.non)) (C.ucallM [] (d_ahead_of 3) (C.acons (C.bin O.ix (C.var 3) (C.un O.neg (C.const (.int (1))))) (C.acons (C.var 5) C.anil)))))
    (C.drop (C.mcall M.append 3 (C.acons (C.ucallM [] d_common (C.acons (C.var 6) (C.acons (C.ucallM [] d_read_at (C.acons (C.var 2) (C.acons (C.bin O.add (C.var 4) (C.const (.int (1)))) C.anil))) C.anil))) C.anil)))))
    (C.ret (C.var 3))))
theorem c_ways_on : (compB 40 20 (S_ways_on) (defBody (top 25))).map (·.1) = some (b_ways_on) := by kernel_rfl
def d_ways_on : List SV → CRes := C.body 3 7 b_ways_on
/-! ### ways_back -/
def S_ways_back : SC := ⟨["guess", "readings", "found", "place"], defScope (top 26), fun _ => true, [("common", ⟨2, d_common, []⟩), ("read_at", ⟨2, d_read_at, []⟩), ("back_of", ⟨2, (d_back_of 3), []⟩)], [], ["len", "range"]⟩
def b_ways_back : SDen :=
    (C.seq (C.set 2 (C.lst (C.acons (C.ucallM [] d_read_at (C.acons (C.var 1) (C.acons (C.call O.len (C.acons (C.var 0) C.anil)) C.anil))) C.anil)))
    (C.seq (C.forS (C.gname 3) (C.iterA W.range3 (C.acons (C.bin O.sub (C.call O.len (C.acons (C.var 0) C.anil)) (C.const (.int (1)))) (C.acons (C.un O.neg (C.const (.int (1)))) (C.acons (C.un O.neg (C.const (.int (1)))) C.anil)))) (C.drop (C.mcall M.insert 2 (C.acons (C.const (.int (0))) (C.acons (C.ucallM [] d_common (C.acons (C.ucallM [] (d_back_of 3) (C.acons (C.bin O.ix (C.var 2) (C.const (.int (0)))) (C.acons (C.bin O.ix (C.var 0) (C.var 3)) C.anil))) (C.acons (C.ucallM [] d_read_at (C.acons (C.var 1) (C.acons (C.var 3) C.anil))) C.anil))) C.anil)))))
    (C.ret (C.var 2))))
theorem c_ways_back : (compB 40 20 (S_ways_back) (defBody (top 26))).map (·.1) = some (b_ways_back) := by kernel_rfl
def d_ways_back : List SV → CRes := C.body 2 4 b_ways_back
/-! ### levels_by -/
def S_levels_by : SC := ⟨["guess", "starts", "readings", "found", "one", "other"], defScope (top 27), fun _ => true, [("ways_back", ⟨2, d_ways_back, []⟩), ("ways_on", ⟨3, d_ways_on, []⟩), ("common", ⟨2, d_common, []⟩)], [], ["zip"]⟩
def b_levels_by : SDen :=
    (C.seq (C.set 3 (C.lc (C.iterA W.zip (C.acons (C.ucallM [] d_ways_on (C.acons (C.var 0) (C.acons (C.var 1) (C.acons (C.var 2) C.anil)))) (C.acons (C.ucallM [] d_ways_back (C.acons (C.var 0) (C.acons (C.var 2) C.anil))) C.anil))) (C.gtup 2 (C.gcons (C.gname 4) (C.gcons (C.gname 5) C.gnil))) C.tyes (C.ucallM [] d_common (C.acons (C.var 4) (C.acons (C.var 5) C.anil))) [4, 5]))
    (C.ret (C.ite (C.tv (C.bin O.isin (C.const (.non)) (C.var 3))) (C.const (.non)) (C.var 3))))
theorem c_levels_by : (compB 40 20 (S_levels_by) (defBody (top 27))).map (·.1) = some (b_levels_by) := by kernel_rfl
def d_levels_by : List SV → CRes := C.body 3 6 b_levels_by
/-! ### numbers_of -/
def S_numbers_of (self : List SV → CRes) : SC := ⟨["triple", "here", "there", "word", "low", "high", "least", "greatest"], defScope (top 28), fun _ => true, [("common", ⟨2, d_common, []⟩), ("turned", ⟨1, d_turned, []⟩), ("numbers_of", ⟨3, self, []⟩), ("turned_about", ⟨1, d_turned_about, []⟩)], [("ADD", k_ADD), ("FLOOR", k_FLOOR)], []⟩
def b_numbers_of (self : List SV → CRes) : SDen :=
    (C.seq (C.asg (C.gtup 3 (C.gcons (C.gname 3) (C.gcons (C.gname 4) (C.gcons (C.gname 5) C.gnil)))) (C.var 0))
    (C.seq (C.ifS (C.tv (C.bin O.eq (C.var 3) (C.const k_ADD))) (C.seq (C.set 6 (C.ite (C.tor (C.tv (C.bin O.isN (C.bin O.ix (C.var 2) (C.const (.int (0)))) (C.const (.non)))) (C.tv (C.bin O.isN (C.bin O.ix (C.var 1) (C.const (.int (1)))) (C.const (.non))))) (C.const (.non)) (C.bin O.sub (C.bin O.ix (C.var 2) (C.const (.int (0)))) (C.bin O.ix (C.var 1) (C.const (.int (1)))))))
    (C.seq (C.set 7 (C.ite (C.tor (C.tv (C.bin O.isN (C.bin O.ix (C.var 2) (C.const (.int (1)))) (C.const (.non)))) (C.tv (C.bin O.isN (C.bin O.ix (C.var 1) (C.const (.int (0)))) (C.const (.non))))) (C.const (.non)) (C.bin O.sub (C.bin O.ix (C.var 2) (C.const (.int (1)))) (C.bin O.ix (C.var 1) (C.const (.int (0)))))))
    (C.ret (C.ucallM [] d_common (C.acons (C.tup (C.acons (C.var 4) (C.acons (C.var 5) C.anil))) (C.acons (C.tup (C.acons (C.var 6) (C.acons (C.var 7) C.anil))) C.anil)))))) C.pass)
    (C.seq (C.ifS (C.tv (C.bin O.ne (C.var 3) (C.const k_FLOOR))) (C.ret (C.ucallM [] d_turned (C.acons (C.ucallM [] self (C.acons (C.ucallM [] d_turned_about (C.acons (C.var 0) C.anil)) (C.acons (C.ucallM [] d_turned (C.acons (C.var 1) C.anil)) (C.acons (C.ucallM [] d_turned (C.acons (C.var 2) C.anil)) C.anil)))) C.anil))) C.pass)
    (C.ret (C.ucallM [] d_common (C.acons (C.tup (C.acons (C.var 4) (C.acons (C.var 5) C.anil))) (C.acons (C.ite (C.tv (C.bin O.isN (C.ucallM [] d_common (C.acons (C.var 1) (C.acons (C.var 2) C.anil))) (C.const (.non)))) (C.var 2) (C.tup (C.acons (C.const (.non)) (C.acons (C.bin O.ix (C.var 2) (C.const (.int (1)))) C.anil)))) C.anil)))))))
theorem c_numbers_of (self : List SV → CRes) : (compB 40 20 (S_numbers_of self) (defBody (top 28))).map (·.1) = some (b_numbers_of self) := by kernel_rfl
def d_numbers_of : Nat → List SV → CRes
  | 0 => fun _ => .fail
  | n + 1 => C.body 3 8 (b_numbers_of (d_numbers_of n))
/-! ### numbers_by -/
def S_numbers_by : SC := ⟨["guess", "starts", "readings", "ahead", "back", "place", "triple"], defScope (top 29), fun _ => true, [("numbers_of", ⟨3, (d_numbers_of 3), []⟩), ("common", ⟨2, d_common, []⟩), ("ways_back", ⟨2, d_ways_back, []⟩), ("ways_on", ⟨3, d_ways_on, []⟩)], [], ["enumerate"]⟩
def b_numbers_by : SDen :=
    (C.seq (C.asg (C.gtup 2 (C.gcons (C.gname 3) (C.gcons (C.gname 4) C.gnil))) (C.tup (C.acons (C.ucallM [] d_ways_on (C.acons (C.var 0) (C.acons (C.var 1) (C.acons (C.var 2) C.anil)))) (C.acons (C.ucallM [] d_ways_back (C.acons (C.var 0) (C.acons (C.var 2) C.anil))) C.anil))))
    (C.seq (C.ifS (C.tv (C.bin O.isN (C.ucallM [] d_common (C.acons (C.bin O.ix (C.var 3) (C.un O.neg (C.const (.int (1))))) (C.acons (C.bin O.ix (C.var 4) (C.un O.neg (C.const (.int (1))))) C.anil))) (C.const (.non)))) (C.ret (C.const (.non))) C.pass)
    (C.ret (C.lc (C.iterA W.enum (C.acons (C.var 0) C.anil)) (C.gtup 2 (C.gcons (C.gname 5) (C.gcons (C.gname 6) C.gnil))) C.tyes (C.ucallM [] (d_numbers_of 3) (C.acons (C.var 6) (C.acons (C.bin O.ix (C.var 3) (C.var 5)) (C.acons (C.bin O.ix (C.var 4) (C.bin O.add (C.var 5) (C.const (.int (1))))) C.anil)))) [5, 6]))))
theorem c_numbers_by : (compB 40 20 (S_numbers_by) (defBody (top 29))).map (·.1) = some (b_numbers_by) := by kernel_rfl
def d_numbers_by : List SV → CRes := C.body 3 7 b_numbers_by
/-! ### some_of -/
def S_some_of : SC := ⟨["stretch"], defScope (top 30), fun _ => true, [], [], []⟩
def b_some_of : SDen :=
    (C.seq (C.ifS (C.tv (C.bin O.notN (C.bin O.ix (C.var 0) (C.const (.int (0)))) (C.const (.non)))) (C.ret (C.bin O.ix (C.var 0) (C.const (.int (0))))) C.pass)
    (C.ret (C.ite (C.tv (C.bin O.isN (C.bin O.ix (C.var 0) (C.const (.int (1)))) (C.const (.non)))) (C.const (.int (0))) (C.bin O.ix (C.var 0) (C.const (.int (1)))))))
theorem c_some_of : (compB 40 20 (S_some_of) (defBody (top 30))).map (·.1) = some (b_some_of) := by kernel_rfl
def d_some_of : List SV → CRes := C.body 1 1 b_some_of
/-! ### going -/
def S_going : SC := ⟨["guess", "starts", "readings", "levels", "back", "start", "row", "place", "triple", "here"], defScope (top 31), fun _ => true, [("some_of", ⟨1, d_some_of, []⟩), ("numbers_of", ⟨3, (d_numbers_of 3), []⟩), ("levels_of", ⟨2, d_levels_of, []⟩), ("ways_back", ⟨2, d_ways_back, []⟩), ("levels_by", ⟨3, d_levels_by, []⟩)], [], ["enumerate", "tuple"]⟩
def b_going : SDen :=
    (C.seq (C.set 3 (C.ucallM [] d_levels_by (C.acons (C.var 0) (C.acons (C.var 1) (C.acons (C.var 2) C.anil)))))
    (C.seq (C.ifS (C.tv (C.bin O.isN (C.var 3) (C.const (.non)))) (C.ret (C.const (.non))) C.pass)
    (C.seq (C.par [4, 5, 6] (C.racons (C.ucallM [] d_ways_back (C.acons (C.var 0) (C.acons (C.var 2) C.anil))) (C.racons (C.ucallM [] d_some_of (C.acons (C.bin O.ix (C.var 3) (C.const (.int (0)))) C.anil)) (C.racons (C.lst C.anil) C.anil))))
    (C.seq (C.forS (C.gtup 2 (C.gcons (C.gname 7) (C.gcons (C.gname 8) C.gnil))) (C.iterA W.enum (C.acons (C.var 0) C.anil)) (C.seq (C.set 9 (C.bin O.ix (C.ucallM [] d_levels_of (C.acons (C.call O.tuple (C.acons (C.var 6) C.anil)) (C.acons (C.var 5) C.anil))) (C.un O.neg (C.const (.int (1))))))
    (C.drop (C.mcall M.append 6 (C.acons (C.tup (C.acons (C.bin O.ix (C.var 8) (C.const (.int (0)))) (C.acons (C.ucallM [] d_some_of (C.acons (C.ucallM [] (d_numbers_of 3) (C.acons (C.var 8) (C.acons (C.tup (C.acons (C.var 9) (C.acons (C.var 9) C.anil))) (C.acons (C.bin O.ix (C.var 4) (C.bin O.add (C.var 7) (C.const (.int (1))))) C.anil)))) C.anil)) C.anil))) C.anil)))))
    (C.ret (C.tup (C.acons (C.var 5) (C.acons (C.call O.tuple (C.acons (C.var 6) C.anil)) C.anil))))))))
theorem c_going : (compB 40 20 (S_going) (defBody (top 31))).map (·.1) = some (b_going) := by kernel_rfl
def d_going : List SV → CRes := C.body 3 10 b_going
/-! ### settled -/
def S_settled : SC := ⟨["guess", "starts", "readings", "levels", "moment", "low", "high"], defScope (top 32), fun _ => true, [("levels_by", ⟨3, d_levels_by, []⟩)], [], ["enumerate", "tuple"]⟩
def b_settled : SDen :=
    (C.seq (C.set 3 (C.ucallM [] d_levels_by (C.acons (C.var 0) (C.acons (C.var 1) (C.acons (C.var 2) C.anil)))))
    (C.seq (C.ifS (C.tv (C.bin O.isN (C.var 3) (C.const (.non)))) (C.ret (C.const (.non))) C.pass)
    (C.ret (C.call O.tuple (C.acons (C.lc (C.iterA W.enum (C.acons (C.var 3) C.anil)) (C.gtup 2 (C.gcons (C.gname 4) (C.gcons (C.gtup 2 (C.gcons (C.gname 5) (C.gcons (C.gname 6) C.gnil))) C.gnil))) (C.tand (C.tv (C.bin O.notN (C.var 5) (C.const (.non)))) (C.tv (C.bin O.eq (C.var 5) (C.var 6)))) (C.var 4) [4, 5, 6]) C.anil)))))
theorem c_settled : (compB 40 20 (S_settled) (defBody (top 32))).map (·.1) = some (b_settled) := by kernel_rfl
def d_settled : List SV → CRes := C.body 3 7 b_settled
/-! ### needless_readings -/
def S_needless_readings : SC := ⟨["guess", "starts", "readings", "found", "place", "rest", "moment", "level", "at", "one"], defScope (top 33), fun _ => true, [("levels_by", ⟨3, d_levels_by, []⟩)], [], ["enumerate", "tuple"]⟩
def b_needless_readings : SDen :=
    (C.seq (C.ifS (C.tv (C.bin O.isN (C.ucallM [] d_levels_by (C.acons (C.var 0) (C.acons (C.var 1) (C.acons (C.var 2) C.anil)))) (C.const (.non)))) (C.ret (C.const (.non))) C.pass)
    (C.seq (C.set 3 (C.lst C.anil))
    (C.seq (C.forS (C.gtup 2 (C.gcons (C.gname 4) (C.gcons (C.gtup 2 (C.gcons (C.gname 6) (C.gcons (C.gname 7) C.gnil))) C.gnil))) (C.iterA W.enum (C.acons (C.var 2) C.anil)) (C.seq (C.set 5 (C.lc (C.iterA W.enum (C.acons (C.var 2) C.anil)) (C.gtup 2 (C.gcons (C.gname 8) (C.gcons (C.gname 9) C.gnil))) (C.tv (C.bin O.ne (C.var 8) (C.var 4))) (C.var 9) [8, 9]))
    (C.ifS (C.tv (C.bin O.eq (C.call O.tuple (C.acons (C.bin O.ix (C.ucallM [] d_levels_by (C.acons (C.var 0) (C.acons (C.var 1) (C.acons (C.var 5) C.anil)))) (C.var 6)) C.anil)) (C.tup (C.acons (C.var 7) (C.acons (C.var 7) C.anil))))) (C.drop (C.mcall M.append 3 (C.acons (C.var 4) C.anil))) C.pass)))
    (C.ret (C.call O.tuple (C.acons (C.var 3) C.anil))))))
theorem c_needless_readings : (compB 40 20 (S_needless_readings) (defBody (top 33))).map (·.1) = some (b_needless_readings) := by kernel_rfl
def d_needless_readings : List SV → CRes := C.body 3 10 b_needless_readings
/-! ### first_wrong -/
def S_first_wrong : SC := ⟨["guess", "starts", "readings", "moment", "at", "level", "one"], defScope (top 34), fun _ => true, [("levels_by", ⟨3, d_levels_by, []⟩)], [], ["set", "sorted"]⟩
def b_first_wrong : SDen :=
    (C.seq (C.forS (C.gname 3) (C.iter (C.un O.sset (C.lc (C.iter (C.var 2)) (C.gtup 2 (C.gcons (C.gname 4) (C.gcons (C.gname 5) C.gnil))) C.tyes (C.var 4) [4, 5]))) (C.ifS (C.tv (C.bin O.isN (C.ucallM [] d_levels_by (C.acons (C.var 0) (C.acons (C.var 1) (C.acons (C.lc (C.iter (C.var 2)) (C.gname 6) (C.tv (C.bin O.le (C.bin O.ix (C.var 6) (C.const (.int (0)))) (C.var 3))) (C.var 6) [6]) C.anil)))) (C.const (.non)))) (C.ret (C.var 3)) C.pass))
    (C.ret (C.const (.non))))
theorem c_first_wrong : (compB 40 20 (S_first_wrong) (defBody (top 34))).map (·.1) = some (b_first_wrong) := by kernel_rfl
def d_first_wrong : List SV → CRes := C.body 3 7 b_first_wrong
/-! ### _law_box -/
def S__law_box : SC := ⟨["script", "k", "own"], defScope (top 36), fun _ => true, [], [], ["abs", "int", "len"]⟩
def b__law_box : SDen :=
    (C.seq (C.set 2 (C.ite (C.tv (C.bin O.lt (C.var 1) (C.call O.len (C.acons (C.var 0) C.anil)))) (C.bin O.ix (C.var 0) (C.var 1)) (C.const (.int (0)))))
    (C.ret (C.lst (C.acons (C.bin O.mul (C.call O.abs (C.acons (C.var 2) C.anil)) (C.call O.int (C.acons (C.bin O.ge (C.call O.abs (C.acons (C.var 2) C.anil)) (C.bin O.pow (C.const (.int (10))) (C.const (.int (18))))) C.anil))) (C.acons (C.bin O.add (C.bin O.add (C.bin O.mod (C.call O.int (C.acons (C.var 2) C.anil)) (C.const (.int (2305843009213693951)))) (C.bin O.mul (C.const (.int (39543))) (C.var 1))) (C.const (.int (862373)))) (C.acons (C.const (.int (0))) C.anil))))))
theorem c__law_box : (compB 40 20 (S__law_box) (defBody (top 36))).map (·.1) = some (b__law_box) := by kernel_rfl
def d__law_box : List SV → CRes := C.body 2 3 b__law_box
/-! ### _law_take -/
def S__law_take : SC := ⟨["urn", "low", "once", "far", "twice", "drawn"], defScope (top 37), fun _ => true, [], [], ["int"]⟩
def b__law_take : SDen :=
    (C.seq (C.ifS (C.tv (C.bin O.gt (C.bin O.ix (C.var 0) (C.const (.int (0)))) (C.const (.int (0))))) (C.seq (C.set 5 (C.bin O.mod (C.call O.int (C.acons (C.bin O.ix (C.var 0) (C.const (.int (0)))) C.anil)) (C.var 1)))
    (C.seq (C.sset 0 (C.const (.int (0))) (C.bin O.fdiv (C.bin O.ix (C.var 0) (C.const (.int (0)))) (C.var 1)))
    (C.ret (C.var 5)))) C.pass)
    (C.seq (C.sset 0 (C.const (.int (2))) (C.bin O.add (C.bin O.ix (C.var 0) (C.const (.int (2)))) (C.const (.int (1)))))
    (C.seq (C.set 2 (C.bin O.mod (C.call O.int (C.acons (C.bin O.mul (C.bin O.add (C.bin O.ix (C.var 0) (C.const (.int (1)))) (C.bin O.mul (C.const (.int (48271))) (C.bin O.ix (C.var 0) (C.const (.int (2)))))) (C.bin O.add (C.const (.int (39373))) (C.bin O.ix (C.var 0) (C.const (.int (2)))))) C.anil)) (C.const (.int (2147483647)))))
    (C.seq (C.set 3 (C.bin O.add (C.bin O.mod (C.call O.int (C.acons (C.var 2) C.anil)) (C.const (.int (40009)))) (C.const (.int (7)))))
    (C.seq (C.set 4 (C.bin O.mod (C.call O.int (C.acons (C.bin O.mul (C.bin O.add (C.bin O.add (C.var 2) (C.bin O.ix (C.var 0) (C.const (.int (2))))) (C.bin O.fdiv (C.bin O.ix (C.var 0) (C.const (.int (1)))) (C.const (.int (1000003))))) (C.var 3)) C.anil)) (C.const (.int (2147483629)))))
    (C.ret (C.bin O.mod (C.call O.int (C.acons (C.bin O.fdiv (C.bin O.mod (C.call O.int (C.acons (C.bin O.add (C.bin O.mul (C.var 4) (C.const (.int (48271)))) (C.var 2)) C.anil)) (C.const (.int (2147483587)))) (C.const (.int (64)))) C.anil)) (C.var 1))))))))
theorem c__law_take : (compB 40 20 (S__law_take) (defBody (top 37))).map (·.1) = some (b__law_take) := by kernel_rfl
def d__law_take : List SV → CRes := C.body 2 6 b__law_take
/-! ### _law_cells -/
def S__law_cells : SC := ⟨["script", "roof", "found", "k", "own", "at"], defScope (top 38), fun _ => true, [], [], ["enumerate", "int", "list"]⟩
def b__law_cells : SDen :=
    (C.seq (C.set 2 (C.vor (C.call O.list (C.acons (C.slice (C.var 0) C.pnone (C.psome (C.var 1))) C.anil)) (C.lst (C.acons (C.const (.int (0))) C.anil))))
    (C.seq (C.forS (C.gtup 2 (C.gcons (C.gname 3) (C.gcons (C.gname 4) C.gnil))) (C.iterA W.enum (C.acons (C.slice (C.var 0) (C.psome (C.var 1)) (C.psome (C.const (.int (63))))) C.anil)) (C.seq (C.set 5 (C.bin O.mod (C.call O.int (C.acons (C.var 3) C.anil)) (C.var 1)))
    (C.sset 2 (C.var 5) (C.bin O.add (C.bin O.ix (C.var 2) (C.var 5)) (C.bin O.mul (C.var 4) (C.bin O.add (C.var 3) (C.const (.int (2)))))))))
    (C.ret (C.var 2))))
theorem c__law_cells : (compB 40 20 (S__law_cells) (defBody (top 38))).map (·.1) = some (b__law_cells) := by kernel_rfl
def d__law_cells : List SV → CRes := C.body 2 6 b__law_cells
/-! ### _law_of -/
def S__law_of : SC := ⟨["urn", "some"], defScope (top 39), fun _ => true, [("_law_take", ⟨2, d__law_take, [true, false]⟩)], [], ["len"]⟩
def b__law_of : SDen :=
    (C.ret (C.bin O.ix (C.var 1) (C.ucallM [true, false] d__law_take (C.acons (C.var 0) (C.acons (C.call O.len (C.acons (C.var 1) C.anil)) C.anil)))))
theorem c__law_of : (compB 40 20 (S__law_of) (defBody (top 39))).map (·.1) = some (b__law_of) := by kernel_rfl
def d__law_of : List SV → CRes := C.body 2 2 b__law_of
/-! ### _law_same -/
def S__law_same (self : List SV → CRes) : SC := ⟨["mine", "due", "near", "far"], defScope (top 40), fun _ => true, [("_law_same", ⟨2, self, []⟩)], [], ["all", "bool", "int", "isinstance", "len", "list", "str", "tuple", "zip"]⟩
def b__law_same (self : List SV → CRes) : SDen :=
    (C.seq (C.ifS (C.tru (C.un (O.isiT [.list, .tuple]) (C.var 1))) (C.seq (C.ifS (C.tor (C.tv (C.bin O.ne (C.un (O.isi1 .list) (C.var 0)) (C.un (O.isi1 .list) (C.var 1)))) (C.tv (C.bin O.ne (C.un (O.isi1 .tuple) (C.var 0)) (C.un (O.isi1 .tuple) (C.var 1))))) (C.ret (C.const (.bl false))) C.pass)
    (C.ret (C.vand (C.bin O.eq (C.call O.len (C.acons (C.var 0) C.anil)) (C.call O.len (C.acons (C.var 1) C.anil))) (C.call O.all (C.acons (C.lc (C.iterA W.zip (C.acons (C.var 0) (C.acons (C.var 1) C.anil))) (C.gtup 2 (C.gcons (C.gname 2) (C.gcons (C.gname 3) C.gnil))) C.tyes (C.ucallM [] self (C.acons (C.var 2) (C.acons (C.var 3) C.anil))) [2, 3]) C.anil))))) C.pass)
    (C.seq (C.ifS (C.tor (C.tv (C.bin O.isN (C.var 1) (C.const (.non)))) (C.tru (C.un (O.isiT [.bool, .str]) (C.var 1)))) (C.ret (C.vand (C.bin O.eq (C.var 0) (C.var 1)) (C.vand (C.bin O.eq (C.un (O.isi1 .bool) (C.var 0)) (C.un (O.isi1 .bool) (C.var 1))) (C.bin O.eq (C.bin O.isN (C.var 0) (C.const (.non))) (C.bin O.isN (C.var 1) (C.const (.non))))))) C.pass)
    (C.ret (C.vand (C.un (O.isi1 .int) (C.var 0)) (C.vand (C.vnot (C.un (O.isi1 .bool) (C.var 0))) (C.bin O.eq (C.var 0) (C.var 1)))))))
theorem c__law_same (self : List SV → CRes) : (compB 40 20 (S__law_same self) (defBody (top 40))).map (·.1) = some (b__law_same self) := by kernel_rfl
def d__law_same : Nat → List SV → CRes
  | 0 => fun _ => .fail
  | n + 1 => C.body 2 4 (b__law_same (d__law_same n))
/-! ### _law_lists -/
def S__law_lists (self : List SV → CRes) : SC := ⟨["matter", "own"], defScope (top 41), fun _ => true, [("_law_lists", ⟨1, self, []⟩)], [], ["isinstance", "list", "tuple"]⟩
def b__law_lists (self : List SV → CRes) : SDen :=
    (C.ret (C.ite (C.tru (C.un (O.isiT [.list, .tuple]) (C.var 0))) (C.lc (C.iter (C.var 0)) (C.gname 1) C.tyes (C.ucallM [] self (C.acons (C.var 1) C.anil)) [1]) (C.var 0)))
theorem c__law_lists (self : List SV → CRes) : (compB 40 20 (S__law_lists self) (defBody (top 41))).map (·.1) = some (b__law_lists self) := by kernel_rfl
def d__law_lists : Nat → List SV → CRes
  | 0 => fun _ => .fail
  | n + 1 => C.body 1 2 (b__law_lists (d__law_lists n))
/-! ### _law_soft -/
def S__law_soft : SC := ⟨["urn", "matter"], defScope (top 42), fun _ => true, [("_law_take", ⟨2, d__law_take, [true, false]⟩), ("_law_lists", ⟨1, (d__law_lists 8), []⟩)], [], []⟩
def b__law_soft : SDen :=
    (C.ret (C.ite (C.tv (C.bin O.eq (C.ucallM [true, false] d__law_take (C.acons (C.var 0) (C.acons (C.const (.int (3))) C.anil))) (C.const (.int (0))))) (C.ucallM [] (d__law_lists 8) (C.acons (C.var 1) C.anil)) (C.var 1)))
theorem c__law_soft : (compB 40 20 (S__law_soft) (defBody (top 42))).map (·.1) = some (b__law_soft) := by kernel_rfl
def d__law_soft : List SV → CRes := C.body 2 2 b__law_soft
/-! ### _law_number -/
def S__law_number : SC := ⟨["urn", "far"], defScope (top 43), fun _ => true, [("_law_take", ⟨2, d__law_take, [true, false]⟩)], [], []⟩
def b__law_number : SDen :=
    (C.ret (C.bin O.sub (C.ucallM [true, false] d__law_take (C.acons (C.var 0) (C.acons (C.bin O.add (C.bin O.mul (C.const (.int (2))) (C.var 1)) (C.const (.int (1)))) C.anil))) (C.var 1)))
theorem c__law_number : (compB 40 20 (S__law_number) (defBody (top 43))).map (·.1) = some (b__law_number) := by kernel_rfl
def d__law_number : List SV → CRes := C.body 2 2 b__law_number
/-! ### _law_done -/
def S__law_done : SC := ⟨["level", "event", "word", "number"], defScope (top 44), fun _ => true, [], [], ["max", "min"]⟩
def b__law_done : SDen :=
    (C.seq (C.asg (C.gtup 2 (C.gcons (C.gname 2) (C.gcons (C.gname 3) C.gnil))) (C.var 1))
    (C.ret (C.ite (C.tv (C.bin O.eq (C.var 2) (C.const (.str "add")))) (C.bin O.add (C.var 0) (C.var 3)) (C.ite (C.tv (C.bin O.eq (C.var 2) (C.const (.str "floor")))) (C.call O.max2 (C.acons (C.var 0) (C.acons (C.var 3) C.anil))) (C.call O.min2 (C.acons (C.var 0) (C.acons (C.var 3) C.anil)))))))
theorem c__law_done : (compB 40 20 (S__law_done) (defBody (top 44))).map (·.1) = some (b__law_done) := by kernel_rfl
def d__law_done : List SV → CRes := C.body 2 4 b__law_done
/-! ### _law_levels -/
def S__law_levels : SC := ⟨["row_so", "start", "had", "event"], defScope (top 45), fun _ => true, [("_law_done", ⟨2, d__law_done, []⟩)], [], []⟩
def b__law_levels : SDen :=
    (C.seq (C.set 2 (C.lst (C.acons (C.var 1) C.anil)))
    (C.seq (C.forS (C.gname 3) (C.iter (C.var 0)) (C.drop (C.mcall M.append 2 (C.acons (C.ucallM [] d__law_done (C.acons (C.bin O.ix (C.var 2) (C.un O.neg (C.const (.int (1))))) (C.acons (C.var 3) C.anil))) C.anil))))
    (C.ret (C.var 2))))
theorem c__law_levels : (compB 40 20 (S__law_levels) (defBody (top 45))).map (·.1) = some (b__law_levels) := by kernel_rfl
def d__law_levels : List SV → CRes := C.body 2 4 b__law_levels
/-! ### _law_inside -/
def S__law_inside : SC := ⟨["stretch_so", "start", "low", "high"], defScope (top 46), fun _ => true, [], [], []⟩
def b__law_inside : SDen :=
    (C.seq (C.ifS (C.tv (C.bin O.isN (C.var 0) (C.const (.non)))) (C.ret (C.const (.bl false))) C.pass)
    (C.seq (C.asg (C.gtup 2 (C.gcons (C.gname 2) (C.gcons (C.gname 3) C.gnil))) (C.var 0))
    (C.ret (C.vand (C.vor (C.bin O.isN (C.var 2) (C.const (.non))) (C.bin O.ge (C.var 1) (C.var 2))) (C.vor (C.bin O.isN (C.var 3) (C.const (.non))) (C.bin O.le (C.var 1) (C.var 3)))))))
theorem c__law_inside : (compB 40 20 (S__law_inside) (defBody (top 46))).map (·.1) = some (b__law_inside) := by kernel_rfl
def d__law_inside : List SV → CRes := C.body 2 4 b__law_inside
/-! ### _law_both -/
def S__law_both : SC := ⟨["one", "other", "found", "near", "far"], defScope (top 47), fun _ => true, [], [], []⟩
def b__law_both : SDen :=
    (C.seq (C.set 2 (C.lst C.anil))
    (C.seq (C.forS (C.gname 3) (C.iter (C.var 0)) (C.set 2 (C.bin O.add (C.var 2) (C.lc (C.iter (C.var 1)) (C.gname 4) C.tyes (C.tup (C.acons (C.var 3) (C.acons (C.var 4) C.anil))) [4]))))
    (C.ret (C.var 2))))
theorem c__law_both : (compB 40 20 (S__law_both) (defBody (top 47))).map (·.1) = some (b__law_both) := by kernel_rfl
def d__law_both : List SV → CRes := C.body 2 5 b__law_both
/-! ### _law_pick -/
def S__law_pick : SC := ⟨["urn", "some", "many", "lap", "left", "found"], defScope (top 48), fun _ => true, [("_law_take", ⟨2, d__law_take, [true, false]⟩)], [], ["len", "list", "min", "range"]⟩
def b__law_pick : SDen :=
    (C.seq (C.par [4, 5] (C.racons (C.call O.list (C.acons (C.var 1) C.anil)) (C.racons (C.lst C.anil) C.anil)))
    (C.seq (C.forS (C.gname 3) (C.iterA W.range1 (C.acons (C.call O.min2 (C.acons (C.var 2) (C.acons (C.call O.len (C.acons (C.var 4) C.anil)) C.anil))) C.anil)) (C.drop (C.mcall M.append 5 (C.acons (C.mcall M.pop 4 (C.acons (C.ucallM [true, false] d__law_take (C.acons (C.var 0) (C.acons (C.call O.len (C.acons (C.var 4) C.anil)) C.anil))) C.anil)) C.anil))))
    (C.ret (C.var 5))))
theorem c__law_pick : (compB 40 20 (S__law_pick) (defBody (top 48))).map (·.1) = some (b__law_pick) := by kernel_rfl
def d__law_pick : List SV → CRes := C.body 3 6 b__law_pick
/-! ### _law_pairs -/
def S__law_pairs : SC := ⟨["guess", "starts", "readings", "rows", "had", "word", "low", "high", "start", "row_so", "line", "own", "number", "moment", "level"], defScope (top 49), fun _ => true, [("_law_both", ⟨2, d__law_both, []⟩), ("_law_levels", ⟨2, d__law_levels, []⟩)], [], ["list", "range"]⟩
def b__law_pairs : SDen :=
    (C.seq (C.set 3 (C.lst (C.acons (C.tup C.anil) C.anil)))
    (C.seq (C.forS (C.gtup 3 (C.gcons (C.gname 5) (C.gcons (C.gname 6) (C.gcons (C.gname 7) C.gnil)))) (C.iter (C.var 0)) (C.set 3 (C.lc (C.iter (C.ucallM [] d__law_both (C.acons (C.var 3) (C.acons (C.listI (C.iterA W.range2 (C.acons (C.var 6) (C.acons (C.bin O.add (C.var 7) (C.const (.int (1)))) C.anil)))) C.anil)))) (C.gtup 2 (C.gcons (C.gname 11) (C.gcons (C.gname 12) C.gnil))) C.tyes (C.bin O.add (C.var 11) (C.tup (C.acons (C.tup (C.acons (C.var 5) (C.acons (C.var 12) C.anil))) C.anil))) [11, 12])))
    (C.seq (C.set 4 (C.lst C.anil))
    (C.seq (C.forS (C.gtup 2 (C.gcons (C.gname 8) (C.gcons (C.gname 9) C.gnil))) (C.iter (C.ucallM [] d__law_both (C.acons (C.listI (C.iterA W.range2 (C.acons (C.bin O.ix (C.var 1) (C.const (.int (0)))) (C.acons (C.bin O.add (C.bin O.ix (C.var 1) (C.const (.int (1)))) (C.const (.int (1)))) C.anil)))) (C.acons (C.var 3) C.anil)))) (C.seq (C.set 10 (C.ucallM [] d__law_levels (C.acons (C.var 9) (C.acons (C.var 8) C.anil))))
    (C.ifS (C.tv (C.bin O.eq (C.lc (C.iter (C.var 2)) (C.gtup 2 (C.gcons (C.gname 13) (C.gcons (C.gname 14) C.gnil))) (C.tv (C.bin O.ne (C.bin O.ix (C.var 10) (C.var 13)) (C.var 14))) (C.const (.int (1))) [13, 14]) (C.lst C.anil))) (C.drop (C.mcall M.append 4 (C.acons (C.tup (C.acons (C.var 8) (C.acons (C.var 9) C.anil))) C.anil))) C.pass)))
    (C.ret (C.var 4))))))
theorem c__law_pairs : (compB 40 20 (S__law_pairs) (defBody (top 49))).map (·.1) = some (b__law_pairs) := by kernel_rfl
def d__law_pairs : List SV → CRes := C.body 3 15 b__law_pairs
/-! ### _law_ranges -/
def S__law_ranges : SC := ⟨["lots", "pairs", "lot", "low", "high", "own"], defScope (top 50), fun _ => true, [], [], ["max", "min", "range", "zip"]⟩
def b__law_ranges : SDen :=
    (C.seq (C.set 1 (C.lc (C.iter (C.var 0)) (C.gname 2) C.tyes (C.tup (C.acons (C.call O.min2 (C.acons (C.var 2) C.anil)) (C.acons (C.call O.max2 (C.acons (C.var 2) C.anil)) C.anil))) [2]))
    (C.ret (C.tup (C.acons (C.var 1) (C.acons (C.bin O.eq (C.lc (C.iterA W.zip (C.acons (C.var 0) (C.acons (C.var 1) C.anil))) (C.gtup 2 (C.gcons (C.gname 2) (C.gcons (C.gtup 2 (C.gcons (C.gname 3) (C.gcons (C.gname 4) C.gnil))) C.gnil))) (C.tv (C.bin O.ne (C.lc (C.iterA W.range2 (C.acons (C.var 3) (C.acons (C.bin O.add (C.var 4) (C.const (.int (1)))) C.anil))) (C.gname 5) (C.tv (C.bin O.notin (C.var 5) (C.var 2))) (C.var 5) [5]) (C.lst C.anil))) (C.const (.int (1))) [2, 3, 4]) (C.lst C.anil)) C.anil)))))
theorem c__law_ranges : (compB 40 20 (S__law_ranges) (defBody (top 50))).map (·.1) = some (b__law_ranges) := by kernel_rfl
def d__law_ranges : List SV → CRes := C.body 1 6 b__law_ranges
/-! ### _law_all_told -/
def S__law_all_told : SC := ⟨["urn", "guess", "starts", "readings", "strange", "pairs", "n", "told", "got", "bad", "moment", "lines", "alone", "free", "stretches", "whole", "numbers", "each", "own", "start", "row_so", "k", "line", "low", "high"], defScope (top 51), fun _ => true, [("_law_same", ⟨2, (d__law_same 8), []⟩), ("needless_readings", ⟨3, d_needless_readings, []⟩), ("settled", ⟨3, d_settled, []⟩), ("numbers_by", ⟨3, d_numbers_by, []⟩), ("levels_by", ⟨3, d_levels_by, []⟩), ("_law_pairs", ⟨3, d__law_pairs, []⟩), ("_law_ranges", ⟨1, d__law_ranges, []⟩), ("_law_levels", ⟨2, d__law_levels, []⟩), ("goes_with", ⟨4, d_goes_with, []⟩), ("first_wrong", ⟨3, d_first_wrong, []⟩), ("_law_soft", ⟨2, d__law_soft, [true, false]⟩), ("going", ⟨3, d_going, []⟩)], [], ["enumerate", "len", "list", "range", "tuple"]⟩
def b__law_all_told : SDen :=
    (C.seq (C.set 5 (C.ucallM [] d__law_pairs (C.acons (C.var 1) (C.acons (C.var 2) (C.acons (C.var 3) C.anil)))))
    (C.seq (C.set 6 (C.call O.len (C.acons (C.var 1) C.anil)))
    (C.seq (C.set 7 (C.ucallM [] d_going (C.acons (C.ucallM [true, false] d__law_soft (C.acons (C.var 0) (C.acons (C.var 1) C.anil))) (C.acons (C.var 2) (C.acons (C.var 3) C.anil)))))
    (C.seq (C.set 8 (C.lst (C.acons (C.bin O.isN (C.var 7) (C.const (.non))) (C.acons (C.bin O.isN (C.ucallM [] d_levels_by (C.acons (C.var 1) (C.acons (C.var 2) (C.acons (C.ucallM [true, false] d__law_soft (C.acons (C.var 0) (C.acons (C.var 3) C.anil))) C.anil)))) (C.const (.non))) (C.acons (C.bin O.isN (C.ucallM [] d_numbers_by (C.acons (C.var 1) (C.acons (C.var 2) (C.acons (C.var 3) C.anil)))) (C.const (.non))) (C.acons (C.bin O.isN (C.ucallM [] d_settled (C.acons (C.var 1) (C.acons (C.var 2) (C.acons (C.var 3) C.anil)))) (C.const (.non))) C.anil))))))
    (C.seq (C.set 8 (C.bin O.add (C.var 8) (C.lst (C.acons (C.bin O.isN (C.ucallM [] d_needless_readings (C.acons (C.var 1) (C.acons (C.var 2) (C.acons (C.var 3) C.anil)))) (C.const (.non))) C.anil))))
    (C.seq (C.ifS (C.tor (C.tnot (C.tru (C.ucallM [] (d__law_same 8) (C.acons (C.var 8) (C.acons (C.bin O.mul (C.lst (C.acons (C.bin O.eq (C.var 5) (C.lst C.anil)) C.anil)) (C.const (.int (5)))) C.anil))))) (C.tand (C.tv (C.bin O.notN (C.var 7) (C.const (.non)))) (C.tv (C.bin O.notin (C.var 7) (C.var 5))))) (C.ret (C.const (.bl false))) C.pass)
    (C.seq (C.set 9 (C.const (.non)))
    (C.seq (C.forS (C.gname 10) (C.iterA W.range3 (C.acons (C.var 6) (C.acons (C.un O.neg (C.const (.int (1)))) (C.acons (C.un O.neg (C.const (.int (1)))) C.anil)))) (C.ifS (C.tv (C.bin O.eq (C.ucallM [] d__law_pairs (C.acons (C.var 1) (C.acons (C.var 2) (C.acons (C.lc (C.iter (C.var 3)) (C.gname 18) (C.tv (C.bin O.le (C.bin O.ix (C.var 18) (C.const (.int (0)))) (C.var 10))) (C.var 18) [18]) C.anil)))) (C.lst C.anil))) (C.set 9 (C.var 10)) C.pass))
    (C.seq (C.ifS (C.tnot (C.tru (C.ucallM [] (d__law_same 8) (C.acons (C.ucallM [] d_first_wrong (C.acons (C.var 1) (C.acons (C.var 2) (C.acons (C.var 3) C.anil)))) (C.acons (C.var 9) C.anil))))) (C.ret (C.const (.bl false))) C.pass)
    (C.seq (C.set 8 (C.bin O.add (C.lc (C.iter (C.var 4)) (C.gname 18) C.tyes (C.ucallM [] d_goes_with (C.acons (C.var 1) (C.acons (C.var 2) (C.acons (C.var 3) (C.acons (C.var 18) C.anil))))) [18]) (C.lst (C.acons (C.ucallM [] d_goes_with (C.acons (C.var 1) (C.acons (C.var 2) (C.acons (C.var 3) (C.acons (C.call O.list (C.acons (C.bin O.ix (C.var 4) (C.const (.int (0)))) C.anil)) C.anil))))) C.anil))))
    (C.seq (C.ifS (C.tnot (C.tru (C.ucallM [] (d__law_same 8) (C.acons (C.var 8) (C.acons (C.bin O.add (C.lc (C.iter (C.var 4)) (C.gname 18) C.tyes (C.bin O.isin (C.var 18) (C.var 5)) [18]) (C.lst (C.acons (C.const (.bl false)) C.anil))) C.anil))))) (C.ret (C.const (.bl false))) C.pass)
    (C.seq (C.ifS (C.tv (C.bin O.eq (C.var 5) (C.lst C.anil))) (C.ret (C.const (.bl true))) C.pass)
    (C.seq (C.set 11 (C.lc (C.iter (C.var 5)) (C.gtup 2 (C.gcons (C.gname 19) (C.gcons (C.gname 20) C.gnil))) C.tyes (C.ucallM [] d__law_levels (C.acons (C.var 20) (C.acons (C.var 19) C.anil))) [19, 20]))
    (C.seq (C.asg (C.gtup 2 (C.gcons (C.gname 14) (C.gcons (C.gname 15) C.gnil))) (C.ucallM [] d__law_ranges (C.acons (C.lc (C.iterA W.range1 (C.acons (C.bin O.add (C.var 6) (C.const (.int (1)))) C.anil)) (C.gname 21) C.tyes (C.lc (C.iter (C.var 11)) (C.gname 22) C.tyes (C.bin O.ix (C.var 22) (C.var 21)) [22]) [21]) C.anil)))
    (C.seq (C.asg (C.gtup 2 (C.gcons (C.gname 16) (C.gcons (C.gname 17) C.gnil))) (C.ucallM [] d__law_ranges (C.acons (C.lc (C.iterA W.range1 (C.acons (C.var 6) C.anil)) (C.gname 21) C.tyes (C.lc (C.iter (C.var 5)) (C.gtup 2 (C.gcons (C.gname 19) (C.gcons (C.gname 20) C.gnil))) C.tyes (C.bin O.ix (C.bin O.ix (C.var 20) (C.var 21)) (C.const (.int (1)))) [19, 20]) [21]) C.anil)))
    (C.seq (C.set 12 (C.call O.tuple (C.acons (C.lc (C.iterA W.enum (C.acons (C.var 14) C.anil)) (C.gtup 2 (C.gcons (C.gname 21) (C.gcons (C.gtup 2 (C.gcons (C.gname 23) (C.gcons (C.gname 24) C.gnil))) C.gnil))) (C.tv (C.bin O.eq (C.var 23) (C.var 24))) (C.var 21) [21, 23, 24]) C.anil)))
    (C.seq (C.set 13 (C.call O.tuple (C.acons (C.lc (C.iterA W.range1 (C.acons (C.call O.len (C.acons (C.var 3) C.anil)) C.anil)) (C.gname 21) (C.tv (C.bin O.eq (C.ucallM [] d__law_pairs (C.acons (C.var 1) (C.acons (C.var 2) (C.acons (C.bin O.add (C.slice (C.var 3) C.pnone (C.psome (C.var 21))) (C.slice (C.var 3) (C.psome (C.bin O.add (C.var 21) (C.const (.int (1))))) C.pnone)) C.anil)))) (C.var 5))) (C.var 21) [21]) C.anil)))
    (C.seq (C.set 8 (C.lst (C.acons (C.ucallM [] d_levels_by (C.acons (C.var 1) (C.acons (C.var 2) (C.acons (C.var 3) C.anil)))) (C.acons (C.ucallM [] d_numbers_by (C.acons (C.var 1) (C.acons (C.var 2) (C.acons (C.var 3) C.anil)))) (C.acons (C.ucallM [] d_settled (C.acons (C.var 1) (C.acons (C.var 2) (C.acons (C.var 3) C.anil)))) (C.acons (C.ucallM [] d_needless_readings (C.acons (C.var 1) (C.acons (C.var 2) (C.acons (C.var 3) C.anil)))) (C.acons (C.var 17) C.anil)))))))
    (C.ret (C.ucallM [] (d__law_same 8) (C.acons (C.var 8) (C.acons (C.lst (C.acons (C.var 14) (C.acons (C.var 16) (C.acons (C.var 12) (C.acons (C.var 13) (C.acons (C.const (.bl true)) C.anil)))))) C.anil))))))))))))))))))))))
theorem c__law_all_told : (compB 40 20 (S__law_all_told) (defBody (top 51))).map (·.1) = some (b__law_all_told) := by kernel_rfl
def d__law_all_told : List SV → CRes := C.body 5 25 b__law_all_told
/-! ### _law_joined -/
def S__law_joined : SC := ⟨["one", "other", "found", "near", "far", "low", "high"], defScope (top 52), fun _ => true, [], [], ["max", "min", "zip"]⟩
def b__law_joined : SDen :=
    (C.seq (C.ifS (C.tor (C.tv (C.bin O.isN (C.var 0) (C.const (.non)))) (C.tv (C.bin O.isN (C.var 1) (C.const (.non))))) (C.ret (C.ite (C.tv (C.bin O.isN (C.var 1) (C.const (.non)))) (C.var 0) (C.var 1))) C.pass)
    (C.seq (C.set 2 (C.lst C.anil))
    (C.seq (C.forS (C.gtup 2 (C.gcons (C.gname 3) (C.gcons (C.gname 4) C.gnil))) (C.iterA W.zip (C.acons (C.var 0) (C.acons (C.var 1) C.anil))) (C.seq (C.set 5 (C.ite (C.tor (C.tv (C.bin O.isN (C.bin O.ix (C.var 3) (C.const (.int (0)))) (C.const (.non)))) (C.tv (C.bin O.isN (C.bin O.ix (C.var 4) (C.const (.int (0)))) (C.const (.non))))) (C.const (.non)) (C.call O.min2 (C.acons (C.bin O.ix (C.var 3) (C.const (.int (0)))) (C.acons (C.bin O.ix (C.var 4) (C.const (.int (0)))) C.anil)))))
    (C.seq (C.set 6 (C.ite (C.tor (C.tv (C.bin O.isN (C.bin O.ix (C.var 3) (C.const (.int (1)))) (C.const (.non)))) (C.tv (C.bin O.isN (C.bin O.ix (C.var 4) (C.const (.int (1)))) (C.const (.non))))) (C.const (.non)) (C.call O.max2 (C.acons (C.bin O.ix (C.var 3) (C.const (.int (1)))) (C.acons (C.bin O.ix (C.var 4) (C.const (.int (1)))) C.anil)))))
    (C.drop (C.mcall M.append 2 (C.acons (C.tup (C.acons (C.var 5) (C.acons (C.var 6) C.anil))) C.anil))))))
    (C.ret (C.var 2)))))
theorem c__law_joined : (compB 40 20 (S__law_joined) (defBody (top 52))).map (·.1) = some (b__law_joined) := by kernel_rfl
def d__law_joined : List SV → CRes := C.body 2 7 b__law_joined
/-! ### _law_later -/
def S__law_later : SC := ⟨["one", "other"], defScope (top 53), fun _ => true, [], [], ["max"]⟩
def b__law_later : SDen :=
    (C.ret (C.ite (C.tor (C.tv (C.bin O.isN (C.var 0) (C.const (.non)))) (C.tv (C.bin O.isN (C.var 1) (C.const (.non))))) (C.const (.non)) (C.call O.max2 (C.acons (C.var 0) (C.acons (C.var 1) C.anil)))))
theorem c__law_later : (compB 40 20 (S__law_later) (defBody (top 53))).map (·.1) = some (b__law_later) := by kernel_rfl
def d__law_later : List SV → CRes := C.body 2 2 b__law_later
/-! ### _law_halves_right -/
def S__law_halves_right : SC := ⟨["urn", "whole", "halves", "readings", "thing", "lines", "numbers", "both", "got", "due", "alone", "own", "good", "guess", "starts", "told", "parts", "line", "k", "moment", "level"], defScope (top 54), fun _ => true, [("_law_same", ⟨2, (d__law_same 8), []⟩), ("goes_with", ⟨4, d_goes_with, []⟩), ("_law_inside", ⟨2, d__law_inside, []⟩), ("levels_of", ⟨2, d_levels_of, []⟩), ("fits_guess", ⟨2, d_fits_guess, []⟩), ("settled", ⟨3, d_settled, []⟩), ("going", ⟨3, d_going, []⟩), ("_law_later", ⟨2, d__law_later, []⟩), ("first_wrong", ⟨3, d_first_wrong, []⟩), ("_law_joined", ⟨2, d__law_joined, []⟩), ("numbers_by", ⟨3, d_numbers_by, []⟩), ("_law_soft", ⟨2, d__law_soft, [true, false]⟩), ("levels_by", ⟨3, d_levels_by, []⟩)], [], ["enumerate", "tuple"]⟩
def b__law_halves_right : SDen :=
    (C.seq (C.asg (C.gtup 2 (C.gcons (C.gname 13) (C.gcons (C.gname 14) C.gnil))) (C.var 1))
    (C.seq (C.set 5 (C.lc (C.iter (C.var 2)) (C.gname 11) C.tyes (C.ucallM [] d_levels_by (C.acons (C.bin O.ix (C.var 11) (C.const (.int (0)))) (C.acons (C.bin O.ix (C.var 11) (C.const (.int (1)))) (C.acons (C.var 3) C.anil)))) [11]))
    (C.seq (C.set 6 (C.lc (C.iter (C.var 2)) (C.gname 11) C.tyes (C.ucallM [] d_numbers_by (C.acons (C.bin O.ix (C.var 11) (C.const (.int (0)))) (C.acons (C.bin O.ix (C.var 11) (C.const (.int (1)))) (C.acons (C.var 3) C.anil)))) [11]))
    (C.seq (C.set 7 (C.ucallM [] d__law_joined (C.acons (C.bin O.ix (C.var 5) (C.const (.int (0)))) (C.acons (C.bin O.ix (C.var 5) (C.const (.int (1)))) C.anil))))
    (C.seq (C.set 8 (C.lst (C.acons (C.ucallM [] d_levels_by (C.acons (C.ucallM [true, false] d__law_soft (C.acons (C.var 0) (C.acons (C.var 13) C.anil))) (C.acons (C.var 14) (C.acons (C.var 3) C.anil)))) (C.acons (C.ucallM [] d_numbers_by (C.acons (C.var 13) (C.acons (C.var 14) (C.acons (C.ucallM [true, false] d__law_soft (C.acons (C.var 0) (C.acons (C.var 3) C.anil))) C.anil)))) (C.acons (C.ucallM [] d_first_wrong (C.acons (C.var 13) (C.acons (C.var 14) (C.acons (C.var 3) C.anil)))) C.anil)))))
    (C.seq (C.set 9 (C.lst (C.acons (C.var 7) (C.acons (C.ucallM [] d__law_joined (C.acons (C.bin O.ix (C.var 6) (C.const (.int (0)))) (C.acons (C.bin O.ix (C.var 6) (C.const (.int (1)))) C.anil))) (C.acons (C.ucallM [] d__law_later (C.acons (C.ucallM [] d_first_wrong (C.acons (C.bin O.ix (C.bin O.ix (C.var 2) (C.const (.int (0)))) (C.const (.int (0)))) (C.acons (C.bin O.ix (C.bin O.ix (C.var 2) (C.const (.int (0)))) (C.const (.int (1)))) (C.acons (C.var 3) C.anil)))) (C.acons (C.ucallM [] d_first_wrong (C.acons (C.bin O.ix (C.bin O.ix (C.var 2) (C.const (.int (1)))) (C.const (.int (0)))) (C.acons (C.bin O.ix (C.bin O.ix (C.var 2) (C.const (.int (1)))) (C.const (.int (1)))) (C.acons (C.var 3) C.anil)))) C.anil))) C.anil)))))
    (C.seq (C.ifS (C.tnot (C.tru (C.ucallM [] (d__law_same 8) (C.acons (C.var 8) (C.acons (C.var 9) C.anil))))) (C.ret (C.const (.bl false))) C.pass)
    (C.seq (C.set 10 (C.ite (C.tv (C.bin O.isN (C.var 7) (C.const (.non)))) (C.const (.non)) (C.call O.tuple (C.acons (C.lc (C.iterA W.enum (C.acons (C.var 7) C.anil)) (C.gtup 2 (C.gcons (C.gname 18) (C.gcons (C.gname 11) C.gnil))) (C.tand (C.tv (C.bin O.notN (C.bin O.ix (C.var 11) (C.const (.int (0)))) (C.const (.non)))) (C.tv (C.bin O.eq (C.bin O.ix (C.var 11) (C.const (.int (0)))) (C.bin O.ix (C.var 11) (C.const (.int (1))))))) (C.var 18) [18, 11]) C.anil))))
    (C.seq (C.par [15, 16] (C.racons (C.ucallM [] d_going (C.acons (C.var 13) (C.acons (C.var 14) (C.acons (C.var 3) C.anil)))) (C.racons (C.lc (C.iter (C.var 2)) (C.gname 11) C.tyes (C.ucallM [] d_going (C.acons (C.bin O.ix (C.var 11) (C.const (.int (0)))) (C.acons (C.bin O.ix (C.var 11) (C.const (.int (1)))) (C.acons (C.var 3) C.anil)))) [11]) C.anil)))
    (C.seq (C.ifS (C.tnot (C.tru (C.ucallM [] (d__law_same 8) (C.acons (C.lst (C.acons (C.ucallM [] d_settled (C.acons (C.var 13) (C.acons (C.var 14) (C.acons (C.var 3) C.anil)))) (C.acons (C.bin O.isN (C.var 15) (C.const (.non))) C.anil))) (C.acons (C.lst (C.acons (C.var 10) (C.acons (C.bin O.eq (C.var 16) (C.lst (C.acons (C.const (.non)) (C.acons (C.const (.non)) C.anil)))) C.anil))) C.anil))))) (C.ret (C.const (.bl false))) C.pass)
    (C.seq (C.forS (C.gname 11) (C.iter (C.lc (C.iter (C.bin O.add (C.var 16) (C.lst (C.acons (C.var 15) C.anil)))) (C.gname 11) (C.tv (C.bin O.notN (C.var 11) (C.const (.non)))) (C.var 11) [11])) (C.seq (C.ifS (C.tor (C.tv (C.bin O.notN (C.ucallM [] d_goes_with (C.acons (C.var 13) (C.acons (C.var 14) (C.acons (C.var 3) (C.acons (C.var 11) C.anil))))) (C.const (.bl true)))) (C.tv (C.bin O.notN (C.ucallM [] d_fits_guess (C.acons (C.var 13) (C.acons (C.bin O.ix (C.var 11) (C.const (.int (1)))) C.anil))) (C.const (.bl true))))) (C.ret (C.const (.bl false))) C.pass)
    (C.seq (C.set 17 (C.ucallM [] d_levels_of (C.acons (C.bin O.ix (C.var 11) (C.const (.int (1)))) (C.acons (C.bin O.ix (C.var 11) (C.const (.int (0)))) C.anil))))
    (C.ifS (C.tor (C.tv (C.bin O.ne (C.lc (C.iter (C.var 3)) (C.gtup 2 (C.gcons (C.gname 19) (C.gcons (C.gname 20) C.gnil))) (C.tv (C.bin O.ne (C.bin O.ix (C.var 17) (C.var 19)) (C.var 20))) (C.const (.int (1))) [19, 20]) (C.lst C.anil))) (C.tnot (C.tru (C.ucallM [] d__law_inside (C.acons (C.var 14) (C.acons (C.bin O.ix (C.var 11) (C.const (.int (0)))) C.anil)))))) (C.ret (C.const (.bl false))) C.pass))))
    (C.seq (C.set 12 (C.lc (C.iter (C.var 2)) (C.gname 11) C.tyes (C.ucallM [] d_goes_with (C.acons (C.bin O.ix (C.var 11) (C.const (.int (0)))) (C.acons (C.bin O.ix (C.var 11) (C.const (.int (1)))) (C.acons (C.var 3) (C.acons (C.var 4) C.anil))))) [11]))
    (C.ret (C.ucallM [] (d__law_same 8) (C.acons (C.ucallM [] d_goes_with (C.acons (C.var 13) (C.acons (C.var 14) (C.acons (C.var 3) (C.acons (C.var 4) C.anil))))) (C.acons (C.bin O.isin (C.const (.bl true)) (C.var 12)) C.anil))))))))))))))))
theorem c__law_halves_right : (compB 40 20 (S__law_halves_right) (defBody (top 54))).map (·.1) = some (b__law_halves_right) := by kernel_rfl
def d__law_halves_right : List SV → CRes := C.body 5 21 b__law_halves_right
/-! ### _law_more_right -/
def S__law_more_right : SC := ⟨["urn", "guess", "starts", "readings", "thing", "level", "fits", "more", "after", "twice", "before", "moment", "low", "high", "told", "one", "two"], defScope (top 55), fun _ => true, [("needless_readings", ⟨3, d_needless_readings, []⟩), ("_law_same", ⟨2, (d__law_same 8), []⟩), ("first_wrong", ⟨3, d_first_wrong, []⟩), ("going", ⟨3, d_going, []⟩), ("levels_by", ⟨3, d_levels_by, []⟩), ("_law_inside", ⟨2, d__law_inside, []⟩), ("goes_with", ⟨4, d_goes_with, []⟩), ("_law_levels", ⟨2, d__law_levels, []⟩), ("numbers_by", ⟨3, d_numbers_by, []⟩), ("_law_number", ⟨2, d__law_number, [true, false]⟩), ("_law_take", ⟨2, d__law_take, [true, false]⟩)], [], ["len", "zip"]⟩
def b__law_more_right : SDen :=
    (C.seq (C.par [10, 11] (C.racons (C.ucallM [] d_levels_by (C.acons (C.var 1) (C.acons (C.var 2) (C.acons (C.var 3) C.anil)))) (C.racons (C.ucallM [true, false] d__law_take (C.acons (C.var 0) (C.acons (C.bin O.add (C.call O.len (C.acons (C.var 1) C.anil)) (C.const (.int (1)))) C.anil))) C.anil)))
    (C.seq (C.ifS (C.tv (C.bin O.isN (C.var 10) (C.const (.non)))) (C.seq (C.set 7 (C.bin O.add (C.var 3) (C.tup (C.acons (C.tup (C.acons (C.var 11) (C.acons (C.ucallM [true, false] d__law_number (C.acons (C.var 0) (C.acons (C.const (.int (9))) C.anil))) C.anil))) C.anil))))
    (C.ret (C.ucallM [] (d__law_same 8) (C.acons (C.lst (C.acons (C.ucallM [] d_levels_by (C.acons (C.var 1) (C.acons (C.var 2) (C.acons (C.var 7) C.anil)))) (C.acons (C.ucallM [] d_numbers_by (C.acons (C.var 1) (C.acons (C.var 2) (C.acons (C.var 7) C.anil)))) (C.acons (C.ucallM [] d_needless_readings (C.acons (C.var 1) (C.acons (C.var 2) (C.acons (C.var 7) C.anil)))) C.anil)))) (C.acons (C.lst (C.acons (C.const (.non)) (C.acons (C.const (.non)) (C.acons (C.const (.non)) C.anil)))) C.anil))))) C.pass)
    (C.seq (C.asg (C.gtup 2 (C.gcons (C.gname 12) (C.gcons (C.gname 13) C.gnil))) (C.bin O.ix (C.var 10) (C.var 11)))
    (C.seq (C.set 5 (C.bin O.ix (C.ucallM [] d__law_levels (C.acons (C.bin O.ix (C.var 4) (C.const (.int (1)))) (C.acons (C.bin O.ix (C.var 4) (C.const (.int (0)))) C.anil))) (C.var 11)))
    (C.seq (C.set 6 (C.ucallM [] d_goes_with (C.acons (C.var 1) (C.acons (C.var 2) (C.acons (C.var 3) (C.acons (C.var 4) C.anil))))))
    (C.seq (C.set 7 (C.bin O.add (C.var 3) (C.tup (C.acons (C.tup (C.acons (C.var 11) (C.acons (C.var 5) C.anil))) C.anil))))
    (C.seq (C.set 8 (C.ucallM [] d_levels_by (C.acons (C.var 1) (C.acons (C.var 2) (C.acons (C.var 7) C.anil)))))
    (C.seq (C.ifS (C.tor (C.tand (C.tru (C.var 6)) (C.tor (C.tv (C.bin O.isN (C.var 8) (C.const (.non)))) (C.tv (C.bin O.ne (C.bin O.ix (C.var 8) (C.var 11)) (C.tup (C.acons (C.var 5) (C.acons (C.var 5) C.anil))))))) (C.tnot (C.tru (C.ucallM [] (d__law_same 8) (C.acons (C.ucallM [] d_goes_with (C.acons (C.var 1) (C.acons (C.var 2) (C.acons (C.var 7) (C.acons (C.var 4) C.anil))))) (C.acons (C.var 6) C.anil)))))) (C.ret (C.const (.bl false))) C.pass)
    (C.seq (C.ifS (C.tand (C.tv (C.bin O.notN (C.var 8) (C.const (.non)))) (C.tv (C.bin O.ne (C.lc (C.iterA W.zip (C.acons (C.var 10) (C.acons (C.var 8) C.anil))) (C.gtup 2 (C.gcons (C.gname 15) (C.gcons (C.gname 16) C.gnil))) (C.tor (C.tnot (C.tru (C.ucallM [] d__law_inside (C.acons (C.var 15) (C.acons (C.bin O.ix (C.var 16) (C.const (.int (0)))) C.anil))))) (C.tnot (C.tru (C.ucallM [] d__law_inside (C.acons (C.var 15) (C.acons (C.bin O.ix (C.var 16) (C.const (.int (1)))) C.anil)))))) (C.const (.int (1))) [15, 16]) (C.lst C.anil)))) (C.ret (C.const (.bl false))) C.pass)
    (C.seq (C.ifS (C.tand (C.tv (C.bin O.notN (C.var 12) (C.const (.non)))) (C.tnot (C.tru (C.ucallM [] (d__law_same 8) (C.acons (C.lst (C.acons (C.ucallM [] d_levels_by (C.acons (C.var 1) (C.acons (C.var 2) (C.acons (C.bin O.add (C.var 3) (C.tup (C.acons (C.tup (C.acons (C.var 11) (C.acons (C.bin O.sub (C.var 12) (C.const (.int (1)))) C.anil))) C.anil))) C.anil)))) (C.acons (C.ucallM [] d_going (C.acons (C.var 1) (C.acons (C.var 2) (C.acons (C.bin O.add (C.var 3) (C.tup (C.acons (C.tup (C.acons (C.var 11) (C.acons (C.bin O.sub (C.var 12) (C.const (.int (1)))) C.anil))) C.anil))) C.anil)))) C.anil))) (C.acons (C.lst (C.acons (C.const (.non)) (C.acons (C.const (.non)) C.anil))) C.anil)))))) (C.ret (C.const (.bl false))) C.pass)
    (C.seq (C.ifS (C.tand (C.tv (C.bin O.notN (C.var 13) (C.const (.non)))) (C.tnot (C.tru (C.ucallM [] (d__law_same 8) (C.acons (C.bin O.isN (C.ucallM [] d_first_wrong (C.acons (C.var 1) (C.acons (C.var 2) (C.acons (C.bin O.add (C.var 3) (C.tup (C.acons (C.tup (C.acons (C.var 11) (C.acons (C.bin O.add (C.var 13) (C.const (.int (1)))) C.anil))) C.anil))) C.anil)))) (C.const (.non))) (C.acons (C.const (.bl false)) C.anil)))))) (C.ret (C.const (.bl false))) C.pass)
    (C.seq (C.set 9 (C.bin O.add (C.var 3) (C.slice (C.var 3) C.pnone (C.psome (C.const (.int (1)))))))
    (C.seq (C.ifS (C.tand (C.tv (C.bin O.ne (C.var 3) (C.tup C.anil))) (C.tv (C.bin O.notN (C.var 8) (C.const (.non))))) (C.seq (C.set 14 (C.ucallM [] d_needless_readings (C.acons (C.var 1) (C.acons (C.var 2) (C.acons (C.var 9) C.anil)))))
    (C.ifS (C.tor (C.tv (C.bin O.isN (C.var 14) (C.const (.non)))) (C.tor (C.tv (C.bin O.notin (C.const (.int (0))) (C.var 14))) (C.tv (C.bin O.notin (C.call O.len (C.acons (C.var 3) C.anil)) (C.var 14))))) (C.ret (C.const (.bl false))) C.pass)) C.pass)
    (C.ret (C.const (.bl true))))))))))))))))
theorem c__law_more_right : (compB 40 20 (S__law_more_right) (defBody (top 55))).map (·.1) = some (b__law_more_right) := by kernel_rfl
def d__law_more_right : List SV → CRes := C.body 5 17 b__law_more_right
/-! ### law -/
def S_law : SC := ⟨["script", "urn", "lap", "k", "line", "readings", "thing", "cut_so", "open_so", "guess", "row_so", "high", "first", "starts", "start", "mid", "halves", "word", "low", "level"], defScope (top 56), fun _ => true, [("_law_more_right", ⟨5, d__law_more_right, [true, false, false, false, false]⟩), ("_law_halves_right", ⟨5, d__law_halves_right, [true, false, false, false, false]⟩), ("_law_take", ⟨2, d__law_take, [true, false]⟩), ("_law_of", ⟨2, d__law_of, [true, false]⟩), ("_law_all_told", ⟨5, d__law_all_told, [true, false, false, false, false]⟩), ("_law_same", ⟨2, (d__law_same 8), []⟩), ("goes_with", ⟨4, d_goes_with, []⟩), ("is_guess", ⟨1, d_is_guess, []⟩), ("_law_pick", ⟨3, d__law_pick, [true, false, false]⟩), ("_law_levels", ⟨2, d__law_levels, []⟩), ("_law_number", ⟨2, d__law_number, [true, false]⟩), ("_law_box", ⟨2, d__law_box, []⟩), ("_law_cells", ⟨2, d__law_cells, []⟩)], [], ["enumerate", "len", "list", "range", "sorted", "tuple"]⟩
def b_law : SDen :=
    (C.seq (C.set 1 (C.ucallM [] d__law_box (C.acons (C.ucallM [] d__law_cells (C.acons (C.var 0) (C.acons (C.const (.int (1))) C.anil))) (C.acons (C.const (.int (0))) C.anil))))
    (C.seq (C.forS (C.gname 2) (C.iterA W.range1 (C.acons (C.const (.int (2))) C.anil)) (C.seq (C.par [9, 10] (C.racons (C.lst C.anil) (C.racons (C.lst C.anil) C.anil)))
    (C.seq (C.forS (C.gname 3) (C.iterA W.range1 (C.acons (C.ucallM [true, false] d__law_take (C.acons (C.var 1) (C.acons (C.const (.int (5))) C.anil))) C.anil)) (C.seq (C.par [17, 18] (C.racons (C.ucallM [true, false] d__law_of (C.acons (C.var 1) (C.acons (C.lst (C.acons (C.const (.str "add")) (C.acons (C.const (.str "add")) (C.acons (C.const (.str "floor")) (C.acons (C.const (.str "cap")) C.anil))))) C.anil))) (C.racons (C.ucallM [true, false] d__law_number (C.acons (C.var 1) (C.acons (C.const (.int (6))) C.anil))) C.anil)))
    (C.seq (C.set 11 (C.bin O.add (C.var 18) (C.ucallM [true, false] d__law_take (C.acons (C.var 1) (C.acons (C.const (.int (3))) C.anil)))))
    (C.seq (C.drop (C.mcall M.append 9 (C.acons (C.tup (C.acons (C.var 17) (C.acons (C.var 18) (C.acons (C.var 11) C.anil)))) C.anil)))
    (C.drop (C.mcall M.append 10 (C.acons (C.tup (C.acons (C.var 17) (C.acons (C.bin O.add (C.var 18) (C.ucallM [true, false] d__law_take (C.acons (C.var 1) (C.acons (C.bin O.add (C.bin O.sub (C.var 11) (C.var 18)) (C.const (.int (1)))) C.anil)))) C.anil))) C.anil)))))))
    (C.seq (C.par [9, 10, 12] (C.racons (C.call O.tuple (C.acons (C.var 9) C.anil)) (C.racons (C.call O.tuple (C.acons (C.var 10) C.anil)) (C.racons (C.ucallM [true, false] d__law_number (C.acons (C.var 1) (C.acons (C.const (.int (9))) C.anil))) C.anil))))
    (C.seq (C.par [13, 14] (C.racons (C.tup (C.acons (C.var 12) (C.acons (C.bin O.add (C.var 12) (C.ucallM [true, false] d__law_take (C.acons (C.var 1) (C.acons (C.const (.int (9))) C.anil)))) C.anil))) (C.racons (C.var 12) C.anil)))
    (C.seq (C.set 4 (C.ucallM [] d__law_levels (C.acons (C.var 10) (C.acons (C.var 14) C.anil))))
    (C.seq (C.set 5 (C.call O.tuple (C.acons (C.lc (C.iter (C.call O.sorted (C.acons (C.ucallM [true, false, false] d__law_pick (C.acons (C.var 1) (C.acons (C.listI (C.iterA W.range1 (C.acons (C.call O.len (C.acons (C.var 4) C.anil)) C.anil))) (C.acons (C.ucallM [true, false] d__law_take (C.acons (C.var 1) (C.acons (C.const (.int (3))) C.anil))) C.anil)))) C.anil))) (C.gname 3) C.tyes (C.tup (C.acons (C.var 3) (C.acons (C.bin O.add (C.bin O.ix (C.var 4) (C.var 3)) (C.ite (C.tv (C.bin O.gt (C.ucallM [true, false] d__law_take (C.acons (C.var 1) (C.acons (C.const (.int (6))) C.anil))) (C.const (.int (0))))) (C.const (.int (0))) (C.const (.int (1))))) C.anil))) [3]) C.anil)))
    (C.seq (C.set 6 (C.tup (C.acons (C.var 14) (C.acons (C.var 10) C.anil))))
    (C.seq (C.ifS (C.tnot (C.tru (C.ucallM [] (d__law_same 8) (C.acons (C.lst (C.acons (C.ucallM [] d_is_guess (C.acons (C.var 9) C.anil)) (C.acons (C.ucallM [] d_goes_with (C.acons (C.var 9) (C.acons (C.var 13) (C.acons (C.var 5) (C.acons (C.var 6) C.anil))))) C.anil))) (C.acons (C.lst (C.acons (C.const (.bl true)) (C.acons (C.bin O.eq (C.lc (C.iter (C.var 5)) (C.gtup 2 (C.gcons (C.gname 3) (C.gcons (C.gname 19) C.gnil))) (C.tv (C.bin O.ne (C.bin O.ix (C.var 4) (C.var 3)) (C.var 19))) (C.const (.int (1))) [3, 19]) (C.lst C.anil)) C.anil))) C.anil))))) (C.ret (C.const (.bl false))) C.pass)
    (C.seq (C.ifS (C.tnot (C.tru (C.ucallM [true, false, false, false, false] d__law_all_told (C.acons (C.var 1) (C.acons (C.var 9) (C.acons (C.var 13) (C.acons (C.var 5) (C.acons (C.lst (C.acons (C.var 6) (C.acons (C.tup (C.acons (C.bin O.add (C.var 14) (C.const (.int (1)))) (C.acons (C.var 10) C.anil))) C.anil))) C.anil)))))))) (C.ret (C.const (.bl false))) C.pass)
    (C.seq (C.set 7 (C.lc (C.iterA W.enum (C.acons (C.var 9) C.anil)) (C.gtup 2 (C.gcons (C.gname 3) (C.gcons (C.gtup 3 (C.gcons (C.gname 17) (C.gcons (C.gname 18) (C.gcons (C.gname 11) C.gnil)))) C.gnil))) (C.tv (C.bin O.lt (C.var 18) (C.var 11))) (C.var 3) [3, 17, 18, 11]))
    (C.seq (C.ifS (C.tv (C.bin O.ne (C.var 7) (C.lst C.anil))) (C.seq (C.set 3 (C.ucallM [true, false] d__law_of (C.acons (C.var 1) (C.acons (C.var 7) C.anil))))
    (C.seq (C.asg (C.gtup 3 (C.gcons (C.gname 17) (C.gcons (C.gname 18) (C.gcons (C.gname 11) C.gnil)))) (C.bin O.ix (C.var 9) (C.var 3)))
    (C.seq (C.set 15 (C.bin O.add (C.var 18) (C.ucallM [true, false] d__law_take (C.acons (C.var 1) (C.acons (C.bin O.sub (C.var 11) (C.var 18)) C.anil)))))
    (C.seq (C.set 16 (C.lst (C.acons (C.tup (C.acons (C.bin O.add (C.bin O.add (C.slice (C.var 9) C.pnone (C.psome (C.var 3))) (C.tup (C.acons (C.tup (C.acons (C.var 17) (C.acons (C.var 18) (C.acons (C.var 15) C.anil)))) C.anil))) (C.slice (C.var 9) (C.psome (C.bin O.add (C.var 3) (C.const (.int (1))))) C.pnone)) (C.acons (C.var 13) C.anil))) (C.acons (C.tup (C.acons (C.bin O.add (C.bin O.add (C.slice (C.var 9) C.pnone (C.psome (C.var 3))) (C.tup (C.acons (C.tup (C.acons (C.var 17) (C.acons (C.bin O.add (C.var 15) (C.const (.int (1)))) (C.acons (C.var 11) C.anil)))) C.anil))) (C.slice (C.var 9) (C.psome (C.bin O.add (C.var 3) (C.const (.int (1))))) C.pnone)) (C.acons (C.var 13) C.anil))) C.anil))))
    (C.ifS (C.tnot (C.tru (C.ucallM [true, false, false, false, false] d__law_halves_right (C.acons (C.var 1) (C.acons (C.tup (C.acons (C.var 9) (C.acons (C.var 13) C.anil))) (C.acons (C.var 16) (C.acons (C.var 5) (C.acons (C.var 6) C.anil)))))))) (C.ret (C.const (.bl false))) C.pass))))) C.pass)
    (C.seq (C.ifS (C.tv (C.bin O.lt (C.bin O.ix (C.var 13) (C.const (.int (0)))) (C.bin O.ix (C.var 13) (C.const (.int (1)))))) (C.seq (C.set 15 (C.bin O.add (C.bin O.ix (C.var 13) (C.const (.int (0)))) (C.ucallM [true, false] d__law_take (C.acons (C.var 1) (C.acons (C.bin O.sub (C.bin O.ix (C.var 13) (C.const (.int (1)))) (C.bin O.ix (C.var 13) (C.const (.int (0))))) C.anil)))))
    (C.ifS (C.tnot (C.tru (C.ucallM [true, false, false, false, false] d__law_halves_right (C.acons (C.var 1) (C.acons (C.tup (C.acons (C.var 9) (C.acons (C.var 13) C.anil))) (C.acons (C.lst (C.acons (C.tup (C.acons (C.var 9) (C.acons (C.tup (C.acons (C.bin O.ix (C.var 13) (C.const (.int (0)))) (C.acons (C.var 15) C.anil))) C.anil))) (C.acons (C.tup (C.acons (C.var 9) (C.acons (C.tup (C.acons (C.bin O.add (C.var 15) (C.const (.int (1)))) (C.acons (C.bin O.ix (C.var 13) (C.const (.int (1)))) C.anil))) C.anil))) C.anil))) (C.acons (C.var 5) (C.acons (C.var 6) C.anil)))))))) (C.ret (C.const (.bl false))) C.pass)) C.pass)
    (C.seq (C.set 8 (C.lst (C.acons (C.tup (C.acons (C.var 9) (C.acons (C.tup (C.acons (C.const (.non)) (C.acons (C.var 12) C.anil))) C.anil))) (C.acons (C.tup (C.acons (C.var 9) (C.acons (C.tup (C.acons (C.bin O.add (C.var 12) (C.const (.int (1)))) (C.acons (C.const (.non)) C.anil))) C.anil))) C.anil))))
    (C.ifS (C.tor (C.tnot (C.tru (C.ucallM [true, false, false, false, false] d__law_halves_right (C.acons (C.var 1) (C.acons (C.tup (C.acons (C.var 9) (C.acons (C.tup (C.acons (C.const (.non)) (C.acons (C.const (.non)) C.anil))) C.anil))) (C.acons (C.var 8) (C.acons (C.var 5) (C.acons (C.var 6) C.anil)))))))) (C.tnot (C.tru (C.ucallM [true, false, false, false, false] d__law_more_right (C.acons (C.var 1) (C.acons (C.var 9) (C.acons (C.var 13) (C.acons (C.var 5) (C.acons (C.var 6) C.anil))))))))) (C.ret (C.const (.bl false))) C.pass)))))))))))))))
    (C.ret (C.const (.bl true)))))
theorem c_law : (compB 40 20 (S_law) (defBody (top 56))).map (·.1) = some (b_law) := by kernel_rfl
def d_law : List SV → CRes := C.body 1 20 b_law

end RF.L
set_option maxRecDepth 100000
set_option maxHeartbeats 1000000
namespace RF.L
open PySem RF RF.C
/-! ### the data, typed -/
def eI : Option Int → D
  | none => .non
  | some i => .int i
def eS (s : S2) : D := .tup [eI s.1, eI s.2]
def eO : Option S2 → D
  | none => .non
  | some s => eS s
def eW : Wd → D
  | .add => .str "add"
  | .floor => .str "floor"
  | .cap => .str "cap"
def eT (t : Tri) : D := .tup [eW t.w, .int t.l, .int t.h]
def eE (e : Ev) : D := .tup [eW e.1, .int e.2]
def eR (r : Rd) : D := .tup [.int r.1, .int r.2]
/-- a triple, as a tuple or as a list -/
def IsT (d : D) (t : Tri) : Prop := d = .tup [eW t.w, .int t.l, .int t.h] ∨ d = .lst [eW t.w, .int t.l, .int t.h]
def IsR (d : D) (r : Rd) : Prop := d = .tup [.int r.1, .int r.2] ∨ d = .lst [.int r.1, .int r.2]
def Is2 {α : Type} (P : D → α → Prop) : List D → List α → Prop
  | [], [] => True
  | d :: ds, a :: as => P d a ∧ Is2 P ds as
  | _, _ => False
/-- a sequence of such, as a tuple or as a list -/
def IsQ {α : Type} (P : D → α → Prop) (d : D) (as : List α) : Prop := ∃ ds, (d = .tup ds ∨ d = .lst ds) ∧ Is2 P ds as
abbrev R (d : D) (l : List D) : CRes := .ok (.v d) (l.map fun d => some (SV.val d))
abbrev Rn (ds : List D) (l : List D) : CRes := .ok (.n (.lst ds)) (l.map fun d => some (SV.val d))
@[simp] theorem eO_none : eO none = .non := rfl
@[simp] theorem eO_some (s : S2) : eO (some s) = eS s := rfl
@[simp] theorem eI_none : eI none = .non := rfl
@[simp] theorem eI_some (s : Int) : eI (some s) = .int s := rfl
@[simp] theorem maxL1 (a : Int) : maxL [a] = a := rfl
@[simp] theorem maxL2 (a b : Int) : maxL [a, b] = max a b := rfl
@[simp] theorem minL1 (a : Int) : minL [a] = a := rfl
@[simp] theorem minL2 (a b : Int) : minL [a, b] = min a b := rfl
theorem com_both (x y : S2) (p q : Int) (hp : maxO x.1 y.1 = some p) (hq : minO x.2 y.2 = some q) : d_common [.val (eS x), .val (eS y)] = R (eO (comT (some x) (some y))) [eS x, eS y] := by
  have e : comT (some x) (some y) = if p ≤ q then some (some p, some q) else none := by
    simp [comT, comS, okS, hp, hq]
  rw [e]
  by_cases h : p ≤ q
  · have h2 : ¬ q < p := by omega
    rcases x with ⟨_ | a, _ | b⟩ <;> rcases y with ⟨_ | c, _ | d⟩ <;> simp only [maxO, minO, Option.some.injEq, reduceCtorEq] at hp hq <;> (first | contradiction | skip) <;> subst hp hq <;>
      simp [d_common, b_common, eO, eS, eI, ev_lc, lcrun_cons, h, h2]
  · have h2 : q < p := by omega
    rcases x with ⟨_ | a, _ | b⟩ <;> rcases y with ⟨_ | c, _ | d⟩ <;> simp only [maxO, minO, Option.some.injEq, reduceCtorEq] at hp hq <;> (first | contradiction | skip) <;> subst hp hq <;>
      simp [d_common, b_common, eO, eS, eI, ev_lc, lcrun_cons, h, h2]
theorem t_common (x y : Option S2) : d_common [.val (eO x), .val (eO y)] = R (eO (comT x y)) [eO x, eO y] := by
  cases x with
  | none => cases y with
    | none => kernel_rfl
    | some y => kernel_rfl
  | some x => cases y with
    | none => kernel_rfl
    | some y =>
      cases hp : maxO x.1 y.1 with
      | none =>
        rcases x with ⟨_ | a, b⟩ <;> rcases y with ⟨_ | c, d⟩ <;> simp [maxO] at hp
        rcases b with _ | b <;> rcases d with _ | d <;> simp [d_common, b_common, eO, eS, eI, ev_lc, lcrun_cons, comT, comS, okS, maxO, minO]
      | some p => cases hq : minO x.2 y.2 with
        | some q => exact com_both x y p q hp hq
        | none =>
          rcases x with ⟨a, _ | b⟩ <;> rcases y with ⟨c, _ | d⟩ <;> simp [minO] at hq
          rcases a with _ | a <;> rcases c with _ | c <;> simp [d_common, b_common, eO, eS, eI, ev_lc, lcrun_cons, comT, comS, okS, maxO, minO]
theorem t_more (b : Option Int) (n : Int) : d_more_by [.val (eI b), .val (.int n)] = R (eI (b.map (· + n))) [eI b, .int n] := by
  cases b <;> rfl
theorem c_add : ("cap" == ("add" : Str)) = false := by decide +kernel
theorem c_floor : ("cap" == ("floor" : Str)) = false := by decide +kernel
theorem f_add : ("floor" == ("add" : Str)) = false := by decide +kernel
@[simp] theorem ok_cap : PyData.strOk ("cap" : Str) = true := by decide +kernel
@[simp] theorem ok_add : PyData.strOk ("add" : Str) = true := by decide +kernel
@[simp] theorem ok_floor : PyData.strOk ("floor" : Str) = true := by decide +kernel
theorem t_turned (s : S2) : d_turned [.val (eS s)] = R (eS (turnS s)) [eS s] := by
  rcases s with ⟨_ | a, _ | b⟩ <;> rfl
theorem t_about {d : D} {t : Tri} (h : IsT d t) : d_turned_about [.val d] = R (eT (turnT t)) [d] := by
  rcases h with rfl | rfl <;> rfl
theorem t_aheadF {d : D} {t : Tri} (n : Nat) (s : S2) (h : IsT d t) (hw : t.w = .floor) : d_ahead_of (n + 1) [.val (eS s), .val d] = R (eS (aheadF s t)) [eS s, d] := by
  rcases t with ⟨w, l, u⟩
  cases hw
  rcases h with rfl | rfl <;> rcases s with ⟨_ | a, _ | b⟩ <;> simp only [aheadF, Option.map_none, Option.map_some, ← if_max] <;> kernel_rfl
theorem t_ahead {d : D} {t : Tri} (s : S2) (h : IsT d t) : d_ahead_of 3 [.val (eS s), .val d] = R (eS (aheadT s t)) [eS s, d] := by
  rcases t with ⟨w, l, u⟩
  cases w with
  | add => rcases h with rfl | rfl <;> rcases s with ⟨_ | a, _ | b⟩ <;> kernel_rfl
  | floor => exact t_aheadF 2 s h rfl
  | cap =>
    have h1 := t_turned s
    have h2 := t_about h
    have h3 : d_ahead_of 2 _ = _ := t_aheadF 1 (turnS s) (t := turnT ⟨.cap, l, u⟩) (d := eT (turnT ⟨.cap, l, u⟩)) (.inl rfl) rfl
    have h4 := t_turned (aheadF (turnS s) (turnT ⟨.cap, l, u⟩))
    show C.body 2 6 (b_ahead_of (d_ahead_of 2)) _ = _
    rcases h with rfl | rfl <;> simp only [eW] at h2 ⊢ <;> simp [b_ahead_of, k_ADD, k_FLOOR, c_add, c_floor, h1, h2, h3, h4, aheadT]
@[simp] theorem noneD_eS (s : S2) : noneD (eS s) = false := rfl
@[simp] theorem noneD_eO (s : Option S2) : noneD (eO s) = s.isNone := by cases s <;> rfl
@[simp] theorem noneD_eI (s : Option Int) : noneD (eI s) = s.isNone := by cases s <;> rfl
/-! ### back_of -/
theorem t_backN {d : D} (n : Nat) : d_back_of (n + 1) [.val .non, .val d] = R .non [.non, d] := by kernel_rfl
theorem t_backF {d : D} {t : Tri} (n : Nat) (s : S2) (h : IsT d t) (hw : t.w = .floor) : d_back_of (n + 1) [.val (eS s), .val d] = R (eO (backF s t)) [eS s, d] := by
  show C.body 2 6 (b_back_of (d_back_of n)) _ = _
  rcases t with ⟨w, l, u⟩
  cases hw
  rcases s with ⟨_ | a, _ | b⟩
  · rcases h with rfl | rfl <;> simp [b_back_of, k_ADD, k_FLOOR, eW, f_add, eS, eI, backF, eO]
  · by_cases hb : b < l <;> rcases h with rfl | rfl <;> simp [b_back_of, k_ADD, k_FLOOR, eW, f_add, eS, eI, backF, eO, hb]
  · by_cases ha : a ≤ u <;> rcases h with rfl | rfl <;> simp [b_back_of, k_ADD, k_FLOOR, eW, f_add, eS, eI, backF, eO, ha]
  · by_cases ha : a ≤ u <;> by_cases hb : b < l <;> rcases h with rfl | rfl <;> simp [b_back_of, k_ADD, k_FLOOR, eW, f_add, eS, eI, backF, eO, ha, hb]
theorem t_back {d : D} {t : Tri} (x : Option S2) (h : IsT d t) : d_back_of 3 [.val (eO x), .val d] = R (eO (backT x t)) [eO x, d] := by
  cases x with
  | none => exact t_backN 2
  | some s =>
    show d_back_of 3 [.val (eS s), .val d] = R (eO (backS2 s t)) [eS s, d]
    rcases t with ⟨w, l, u⟩
    cases w with
    | add => rcases h with rfl | rfl <;> rcases s with ⟨_ | a, _ | b⟩ <;> kernel_rfl
    | floor => exact t_backF 2 s h rfl
    | cap =>
      have h1 := t_turned s
      have h2 := t_about h
      have h3 : d_back_of 2 _ = _ := t_backF 1 (turnS s) (t := turnT ⟨.cap, l, u⟩) (d := eT (turnT ⟨.cap, l, u⟩)) (.inl rfl) rfl
      show C.body 2 6 (b_back_of (d_back_of 2)) _ = _
      cases q : backF (turnS s) (turnT ⟨.cap, l, u⟩) with
      | none =>
        rw [q] at h3
        have e : backS2 s ⟨.cap, l, u⟩ = none := by simp [backS2, q]
        rw [e]
        rcases h with rfl | rfl <;> simp only [eW] at h2 ⊢ <;> simp [b_back_of, k_ADD, k_FLOOR, c_add, c_floor, h1, h2, h3, eO]
      | some y =>
        rw [q] at h3
        have h4 := t_turned y
        have e : backS2 s ⟨.cap, l, u⟩ = some (turnS y) := by simp [backS2, q]
        rw [e]
        rcases h with rfl | rfl <;> simp only [eW] at h2 ⊢ <;> simp [b_back_of, k_ADD, k_FLOOR, c_add, c_floor, h1, h2, h3, h4, eO]
/-! ### read_at -/
/-- a slot's content that is nobody's -/
def J (x : Option SV) : Prop := x = none ∨ ∃ d, x = some (.val d)
theorem read_loop (dr : D) (m : Int) : ∀ (ds : List D) (rs : List Rd), Is2 IsR ds rs → ∀ (f : Option S2) (j1 j2 : Option SV), J j1 → J j2 →
    ∃ k1 k2, J k1 ∧ J k2 ∧ C.loop (C.gtup 2 (C.gcons (C.gname 3) (C.gcons (C.gname 4) C.gnil))) (C.ifS (C.tv (C.bin O.eq (C.var 3) (C.var 1))) (C.set 2 (C.ucallM [] d_common (C.acons (C.var 2) (C.acons (C.tup (C.acons (C.var 4) (C.acons (C.var 4) C.anil))) C.anil)))) C.pass) ds
      [some (.val dr), some (.val (.int m)), some (.val (eO f)), j1, j2] = .nx [some (.val dr), some (.val (.int m)), some (.val (eO (rs.foldl (readStep m) f))), k1, k2]
  | [], [], _, f, j1, j2, h1, h2 => ⟨j1, j2, h1, h2, rfl⟩
  | [], _ :: _, h, _, _, _, _, _ => h.elim
  | _ :: _, [], h, _, _, _, _, _ => h.elim
  | d :: ds, r :: rs, ⟨hd, hr⟩, f, j1, j2, h1, h2 => by
    have hc : d_common [.val (eO f), .val (.tup [.int r.2, .int r.2])] = _ := t_common f (some (some r.2, some r.2))
    by_cases e : r.1 = m
    · obtain ⟨k1, k2, q1, q2, q3⟩ := read_loop dr m ds rs hr (comT f (some (some r.2, some r.2))) (some (.val (.int r.1))) (some (.val (.int r.2))) (.inr ⟨_, rfl⟩) (.inr ⟨_, rfl⟩)
      refine ⟨k1, k2, q1, q2, ?_⟩
      have e2 : (r :: rs).foldl (readStep m) f = rs.foldl (readStep m) (comT f (some (some r.2, some r.2))) := by simp [readStep, e]
      rw [e2, loop_cons]
      rcases h1 with rfl | ⟨_, rfl⟩ <;> rcases h2 with rfl | ⟨_, rfl⟩ <;> rcases hd with rfl | rfl <;> simp [e, hc] <;> (rw [← e]; simpa [e] using q3)
    · obtain ⟨k1, k2, q1, q2, q3⟩ := read_loop dr m ds rs hr f (some (.val (.int r.1))) (some (.val (.int r.2))) (.inr ⟨_, rfl⟩) (.inr ⟨_, rfl⟩)
      refine ⟨k1, k2, q1, q2, ?_⟩
      have e2 : (r :: rs).foldl (readStep m) f = rs.foldl (readStep m) f := by simp [readStep, e]
      rw [e2, loop_cons]
      rcases h1 with rfl | ⟨_, rfl⟩ <;> rcases h2 with rfl | ⟨_, rfl⟩ <;> rcases hd with rfl | rfl <;> simp [e] <;> exact q3
theorem t_read {dr : D} {rs : List Rd} (h : IsQ IsR dr rs) (m : Int) : d_read_at [.val dr, .val (.int m)] = R (eO (readT rs m)) [dr, .int m] := by
  obtain ⟨ds, hd, h2⟩ := h
  obtain ⟨k1, k2, _, _, q⟩ := read_loop dr m ds rs h2 (some (none, none)) none none (.inl rfl) (.inl rfl)
  have q : C.loop _ _ ds [some (.val dr), some (.val (.int m)), some (.val k_EVERY), none, none] = _ := q
  rcases hd with rfl | rfl <;> simp [d_read_at, b_read_at, ev_forS, q, readT]
/-! ### ways_on -/
theorem on_loop {dr : D} {rs : List Rd} (hr : IsQ IsR dr rs) (dg dst : D) : ∀ (ds : List D) (ts : List Tri), Is2 IsT ds ts → ∀ (m : Nat) (pre : List (Option S2)) (cur : Option S2) (j4 j5 j6 : Option SV), J j4 → J j5 → J j6 → pre.length + ts.length < 1000000 →
    ∃ k4 k5 k6, C.loop (C.gtup 2 (C.gcons (C.gname 4) (C.gcons (C.gname 5) C.gnil))) (C.seq (C.set 6 (C.ite (C.tv (C.bin O.isN (C.bin O.ix (C.var 3) (C.un O.neg (C.const (.int (1))))) (C.const (.non)))) (C.const (.non)) (C.ucallM [] (d_ahead_of 3) (C.acons (C.bin O.ix (C.var 3) (C.un O.neg (C.const (.int (1))))) (C.acons (C.var 5) C.anil)))))
    (C.drop (C.mcall M.append 3 (C.acons (C.ucallM [] d_common (C.acons (C.var 6) (C.acons (C.ucallM [] d_read_at (C.acons (C.var 2) (C.acons (C.bin O.add (C.var 4) (C.const (.int (1)))) C.anil))) C.anil))) C.anil)))) (enumD m ds)
      [some (.val dg), some (.val dst), some (.val dr), some (.own (.lst (pre.map eO ++ [eO cur]))), j4, j5, j6] = .nx [some (.val dg), some (.val dst), some (.val dr), some (.own (.lst ((pre ++ onT rs m cur ts).map eO))), k4, k5, k6]
  | [], [], _, m, pre, cur, j4, j5, j6, _, _, _, _ => ⟨j4, j5, j6, by simp [onT]⟩
  | [], _ :: _, h, _, _, _, _, _, _, _, _, _, _ => h.elim
  | _ :: _, [], h, _, _, _, _, _, _, _, _, _, _ => h.elim
  | d :: ds, t :: ts, ⟨hd, ht⟩, m, pre, cur, j4, j5, j6, h4, h5, h6, hl => by
    have hl2 : pre.length + 1 < 16777216 := by simp at hl; omega
    have hrd := t_read hr ((m : Int) + 1)
    have hc := t_common (cur.map (aheadT · t)) (readT rs ((m : Int) + 1))
    obtain ⟨k4, k5, k6, q⟩ := on_loop hr dg dst ds ts ht (m + 1) (pre ++ [cur]) (comT (cur.map (aheadT · t)) (readT rs ((m : Int) + 1))) (some (.val (.int m))) (some (.val d)) (some (.val (eO (cur.map (aheadT · t))))) (.inr ⟨_, rfl⟩) (.inr ⟨_, rfl⟩) (.inr ⟨_, rfl⟩) (by simp at hl ⊢; omega)
    refine ⟨k4, k5, k6, ?_⟩
    have e : pre ++ onT rs m cur (t :: ts) = (pre ++ [cur]) ++ onT rs (m + 1) (comT (cur.map (aheadT · t)) (readT rs ((m : Int) + 1))) ts := by simp [onT]
    rw [e, ← q]
    show C.loop _ _ (.tup [.int m, d] :: enumD (m + 1) ds) _ = _
    rw [loop_cons]
    cases cur with
    | none =>
      have hc : d_common [.val .non, _] = _ := hc
      rcases h4 with rfl | ⟨_, rfl⟩ <;> rcases h5 with rfl | ⟨_, rfl⟩ <;> rcases h6 with rfl | ⟨_, rfl⟩ <;> simp [hrd, hc, hl2]
    | some s =>
      have ha := t_ahead s hd
      have hc : d_common [.val (eS (aheadT s t)), _] = _ := hc
      rcases h4 with rfl | ⟨_, rfl⟩ <;> rcases h5 with rfl | ⟨_, rfl⟩ <;> rcases h6 with rfl | ⟨_, rfl⟩ <;> simp [hrd, hc, hl2, ha]
theorem t_on {dg dr : D} {ts : List Tri} {rs : List Rd} (hg : IsQ IsT dg ts) (s : S2) (hr : IsQ IsR dr rs) (hl : ts.length < 1000000) : d_ways_on [.val dg, .val (eS s), .val dr] = Rn ((waysOn ts s rs).map eO) [dg, eS s, dr] := by
  have h1 := t_read hr 0
  have h2 : d_common [.val (eS s), _] = _ := t_common (some s) (readT rs 0)
  obtain ⟨ds, hd, h3⟩ := hg
  obtain ⟨k4, k5, k6, q⟩ := on_loop hr dg (eS s) ds ts h3 0 [] (comT (some s) (readT rs 0)) none none none (.inl rfl) (.inl rfl) (.inl rfl) (by simpa using hl)
  simp only [List.map_nil, List.nil_append] at q
  have hs : eS s = .tup [eI s.1, eI s.2] := rfl
  rcases hd with rfl | rfl <;> simp [d_ways_on, b_ways_on, ev_forS, hs] <;> simp only [← hs] <;> simp [h1, h2] <;> simp [q, waysOn]
/-! ### ways_back -/
theorem is2_get {α : Type} {P : D → α → Prop} : ∀ {ds : List D} {as : List α} {i : Nat} {a : α}, Is2 P ds as → as[i]? = some a → ∃ d, ds[i]? = some d ∧ P d a
  | [], [], _, _, _, e => by simp at e
  | [], _ :: _, _, _, h, _ => h.elim
  | _ :: _, [], _, _, h, _ => h.elim
  | d :: ds, a :: as, 0, _, h, e => by simp at e; subst e; exact ⟨d, rfl, h.1⟩
  | d :: ds, a :: as, i + 1, _, h, e => by
    obtain ⟨d', h1, h2⟩ := is2_get (i := i) h.2 (by simpa using e)
    exact ⟨d', by simpa using h1, h2⟩
theorem is2_len {α : Type} {P : D → α → Prop} : ∀ {ds : List D} {as : List α}, Is2 P ds as → ds.length = as.length
  | [], [], _ => rfl
  | [], _ :: _, h => h.elim
  | _ :: _, [], h => h.elim
  | _ :: ds, _ :: as, h => congrArg (· + 1) (is2_len h.2)
theorem t_wb {dg dr : D} {ts : List Tri} {rs : List Rd} (hg : IsQ IsT dg ts) (hr : IsQ IsR dr rs) (hl : ts.length < 1000000) : d_ways_back [.val dg, .val dr] = Rn ((waysBack ts rs).map eO) [dg, dr] := by
  have h1 := t_read hr (ts.length : Nat)
  obtain ⟨ds, hd, h3⟩ := hg
  have hlen := is2_len h3
  have lp := loop_inv (g := C.gname 3) (b := C.drop (C.mcall M.insert 2 (C.acons (C.const (.int (0))) (C.acons (C.ucallM [] d_common (C.acons (C.ucallM [] (d_back_of 3) (C.acons (C.bin O.ix (C.var 2) (C.const (.int (0)))) (C.acons (C.bin O.ix (C.var 0) (C.var 3)) C.anil))) (C.acons (C.ucallM [] d_read_at (C.acons (C.var 1) (C.acons (C.var 3) C.anil))) C.anil))) C.anil))))
    (fun i sl => i ≤ ts.length ∧ ∃ j3, J j3 ∧ sl = [some (.val dg), some (.val dr), some (.own (.lst ((bkT rs (ts.length - i) (ts.drop (ts.length - i))).map eO))), j3])
    (rangeDC ((ts.length : Int) - 1) (-1) ts.length) 0 [some (.val dg), some (.val dr), some (.own (.lst ((bkT rs ts.length []).map eO))), none] ⟨Nat.zero_le _, none, .inl rfl, by simp⟩ fun i d sl hi ⟨hile, j3, hj, hsl⟩ => by
      have hlr : (rangeDC ((ts.length : Int) - 1) (-1) ts.length).length = ts.length := by simp [rangeDC]
      have hin : i < ts.length := by rw [← hlr]; exact (List.getElem?_eq_some_iff.mp hi).1
      rw [rangeDC_at hin] at hi
      have hi2 : d = .int ((ts.length - 1 - i : Nat) : Int) := by
        cases hi
        congr 1
        omega
      subst hi2
      have hk : ts.length - (0 + i) = (ts.length - 1 - i) + 1 := by omega
      generalize hkk : ts.length - 1 - i = k at hk hi ⊢
      have hkl : k < ts.length := by omega
      obtain ⟨dt, hdt, ht⟩ := is2_get h3 (List.getElem?_eq_getElem hkl)
      have hix : atD ds ((k : Nat) : Int) = some dt := by rw [atD_nat]; exact hdt
      have hb := t_back (bk0 rs (k + 1) (ts.drop (k + 1))) ht
      have hrd := t_read hr (k : Nat)
      have hc := t_common (backT (bk0 rs (k + 1) (ts.drop (k + 1))) ts[k]) (readT rs k)
      have hdrop : ts.drop k = ts[k] :: ts.drop (k + 1) := List.drop_eq_getElem_cons hkl
      have hsz : (bkTail rs (k + 1) (ts.drop (k + 1))).length + 1 < 16777216 := by
        have := bkT_len rs (ts.drop (k + 1)) (k + 1)
        unfold bkT at this
        simp at this
        omega
      rw [hk] at hsl
      subst hsl
      have hk2 : ts.length - (0 + i + 1) = k := by omega
      refine ⟨[some (.val dg), some (.val dr), some (.own (.lst ((bkT rs (k + 1) (ts.drop (k + 1))).map eO))), some (.val (.int k))], [some (.val dg), some (.val dr), some (.own (.lst ((bkT rs k (ts.drop k)).map eO))), some (.val (.int k))], ?_, .inl ?_, by omega, some (.val (.int k)), .inr ⟨_, rfl⟩, by rw [hk2]⟩
      · rcases hj with rfl | ⟨_, rfl⟩ <;> rfl
      · rw [hdrop, bkT_cons]
        rcases hd with rfl | rfl <;> simp [bkT, hix, hb, hrd, hc, hsz]
  obtain ⟨sl', q1, q2, j3, hj, q3⟩ := lp
  have hlr : (rangeDC ((ts.length : Int) - 1) (-1) ts.length).length = ts.length := by simp [rangeDC]
  rw [hlr, show ts.length - (0 + ts.length) = 0 by omega, List.drop_zero] at q3
  subst q3
  have q1 : C.loop _ _ _ [some (.val dg), some (.val dr), some (.own (.lst [eO (readT rs ts.length)])), none] = _ := q1
  have ok1 : -4611686018427387904 ≤ (ts.length : Int) - 1 ∧ (ts.length : Int) - 1 < 4611686018427387904 := by omega
  have hn : ((ts.length : Int) - 1 - -1).toNat = ts.length := by omega
  rcases hd with rfl | rfl <;> simp [d_ways_back, b_ways_back, ev_forS, hlen, h1, ok1, hn, q1, waysBack]
/-! ### levels_by -/
/-- a comprehension over typed data -/
theorem lcrun_is {α : Type} {P : D → α → Prop} {g : GDen} {t : TDen} {e : Den} {vs : List Nat} {sl : Sl} (p : α → Bool) (f : α → D) : ∀ (ds : List D) (as : List α), Is2 P ds as → ∀ (slc : Sl), wipeS slc vs = wipeS sl vs →
    (∀ d a, P d a → a ∈ as → ∃ sl2, g.run d (wipeS sl vs) = some sl2 ∧ t sl2 = .ok (p a) sl2 ∧ wipeS sl2 vs = wipeS sl vs ∧ (p a = true → ∃ r sl3 sl4, e sl2 = .ok r sl3 ∧ frz r sl3 = some (f a, sl4) ∧ wipeS sl4 vs = wipeS sl vs)) →
    ∃ sl', C.lcrun g t e vs ds slc = some ((as.filter p).map f, sl') ∧ wipeS sl' vs = wipeS sl vs
  | [], [], _, slc, hw, _ => ⟨slc, rfl, hw⟩
  | [], _ :: _, h, _, _, _ => h.elim
  | _ :: _, [], h, _, _, _ => h.elim
  | d :: ds, a :: as, ⟨hd, hs⟩, slc, hw, h => by
    obtain ⟨sl2, e1, e2, e3, e4⟩ := h d a hd (by simp)
    rw [lcrun_cons, hw, e1]
    simp only
    rw [e2]
    cases hp : p a with
    | false =>
      rw [List.filter_cons_of_neg (by simp [hp])]
      exact lcrun_is p f ds as hs sl2 e3 fun d' a' h1 h2 => h d' a' h1 (by simp [h2])
    | true =>
      obtain ⟨r, sl3, sl4, q1, q2, q3⟩ := e4 hp
      obtain ⟨sl', k1, k2⟩ := lcrun_is p f ds as hs sl4 q3 fun d' a' h1 h2 => h d' a' h1 (by simp [h2])
      refine ⟨sl', ?_, k2⟩
      simp only [q1, q2, k1]
      rw [List.filter_cons_of_pos hp, List.map_cons]
theorem lc_is {α : Type} {P : D → α → Prop} {it : IDen} {g : GDen} {t : TDen} {e : Den} {vs : List Nat} {sl sl1 : Sl} {ds : List D} {as : List α} (p : α → Bool) (f : α → D) (hit : it sl = .ok ds sl1) (hs : Is2 P ds as) (hl : ds.length ≤ 1000000)
    (h : ∀ d a, P d a → a ∈ as → ∃ sl2, g.run d (wipeS sl1 vs) = some sl2 ∧ t sl2 = .ok (p a) sl2 ∧ wipeS sl2 vs = wipeS sl1 vs ∧ (p a = true → ∃ r sl3 sl4, e sl2 = .ok r sl3 ∧ frz r sl3 = some (f a, sl4) ∧ wipeS sl4 vs = wipeS sl1 vs)) :
    C.lc it g t e vs sl = .ok (.n (.lst ((as.filter p).map f))) sl1 := by
  obtain ⟨sl', k1, k2⟩ := lcrun_is p f ds as hs (wipeS sl1 vs) (wipe_idem sl1 vs) h
  unfold C.lc
  rw [hit]
  simp only
  rw [k1]
  simp only
  rw [if_pos, back_same k2]
  rw [List.length_map]
  refine Nat.le_trans (List.length_filter_le _ _) ?_
  rw [← is2_len hs]
  exact hl
theorem is2_map {α : Type} (enc : α → D) : ∀ as : List α, Is2 (fun d a => d = enc a) (as.map enc) as
  | [] => True.intro
  | _ :: as => ⟨rfl, is2_map enc as⟩
theorem filter_yes {α : Type} (l : List α) : l.filter (fun _ => true) = l := List.filter_eq_self.mpr fun _ _ => rfl
theorem zipD_map {α β : Type} (f : α → D) (g : β → D) : ∀ (as : List α) (bs : List β), zipD (as.map f) (bs.map g) = (as.zip bs).map fun p => .tup [f p.1, g p.2]
  | [], _ => by simp
  | _ :: _, [] => by simp
  | a :: as, b :: bs => by simp [zipD_map f g as bs]
theorem lay_eO (n : Nat) (x : Option S2) : D.lay (n + 1) (eO x) = true := by
  rcases x with _ | ⟨_ | a, _ | b⟩ <;> simp [eS]
theorem layL_eO (n : Nat) : ∀ l : List (Option S2), D.layL (n + 1) (l.map eO) = true
  | [] => rfl
  | x :: l => by
    show (D.lay (n + 1) (eO x) && D.layL (n + 1) (l.map eO)) = true
    rw [lay_eO, layL_eO n l]
    rfl
theorem eqv_non (x : Option S2) : D.eqv (eO x) .non = x.isNone := by
  rcases x with _ | ⟨_ | a, _ | b⟩ <;> simp [eS]
theorem any_non (l : List (Option S2)) : ((l.map eO).any fun z => D.eqv z .non) = l.any (·.isNone) := by
  induction l with
  | nil => rfl
  | cons x l ih => rw [List.map_cons, List.any_cons, List.any_cons, ih, eqv_non]
theorem lev_lc {dg dr : D} {ts : List Tri} {rs : List Rd} (hg : IsQ IsT dg ts) (s : S2) (hr : IsQ IsR dr rs) (hl : ts.length < 1000000) :
    C.lc (C.iterA W.zip (C.acons (C.ucallM [] d_ways_on (C.acons (C.var 0) (C.acons (C.var 1) (C.acons (C.var 2) C.anil)))) (C.acons (C.ucallM [] d_ways_back (C.acons (C.var 0) (C.acons (C.var 2) C.anil))) C.anil))) (C.gtup 2 (C.gcons (C.gname 4) (C.gcons (C.gname 5) C.gnil))) C.tyes (C.ucallM [] d_common (C.acons (C.var 4) (C.acons (C.var 5) C.anil))) [4, 5]
      [some (.val dg), some (.val (eS s)), some (.val dr), none, none, none] = .ok (.n (.lst ((levL ts s rs).map eO))) [some (.val dg), some (.val (eS s)), some (.val dr), none, none, none] := by
  have h1 := t_on hg s hr hl
  have h2 := t_wb hg hr hl
  have := lc_is (P := fun d (p : Option S2 × Option S2) => d = .tup [eO p.1, eO p.2]) (it := C.iterA W.zip (C.acons (C.ucallM [] d_ways_on (C.acons (C.var 0) (C.acons (C.var 1) (C.acons (C.var 2) C.anil)))) (C.acons (C.ucallM [] d_ways_back (C.acons (C.var 0) (C.acons (C.var 2) C.anil))) C.anil)))
    (g := C.gtup 2 (C.gcons (C.gname 4) (C.gcons (C.gname 5) C.gnil))) (t := C.tyes) (e := C.ucallM [] d_common (C.acons (C.var 4) (C.acons (C.var 5) C.anil))) (vs := [4, 5])
    (sl := [some (.val dg), some (.val (eS s)), some (.val dr), none, none, none]) (sl1 := [some (.val dg), some (.val (eS s)), some (.val dr), none, none, none]) (as := (waysOn ts s rs).zip (waysBack ts rs)) (fun _ => true) (fun p => eO (comT p.1 p.2))
    (ds := zipD ((waysOn ts s rs).map eO) ((waysBack ts rs).map eO)) (by simp [h1, h2]) (by rw [zipD_map]; exact is2_map _ _) (by
      rw [zipD_len, List.length_map, List.length_map]
      unfold waysOn waysBack
      rw [onT_len, bkT_len]
      omega) (fun d a hd _ => by
      subst hd
      have h3 := t_common a.1 a.2
      exact ⟨[some (.val dg), some (.val (eS s)), some (.val dr), none, some (.val (eO a.1)), some (.val (eO a.2))], by simp, rfl, rfl, fun _ => ⟨.v (eO (comT a.1 a.2)), [some (.val dg), some (.val (eS s)), some (.val dr), none, some (.val (eO a.1)), some (.val (eO a.2))], _, by simp [h3], rfl, rfl⟩⟩)
  rw [filter_yes] at this
  rw [this]
  unfold levL
  rw [List.map_map]
  rfl
theorem t_levN {dg dr : D} {ts : List Tri} {rs : List Rd} (hg : IsQ IsT dg ts) (s : S2) (hr : IsQ IsR dr rs) (hl : ts.length < 1000000) (h : (levL ts s rs).any (·.isNone) = true) : d_levels_by [.val dg, .val (eS s), .val dr] = R .non [dg, eS s, dr] := by
  have h1 := lev_lc hg s hr hl
  have h2 := layL_eO 7 (levL ts s rs)
  have h3 := any_non (levL ts s rs)
  rw [h] at h3
  simp only [d_levels_by, C.body, b_levels_by]
  simp [h1, h2, h3, -List.any_map, -List.any_eq_true]
theorem t_lev {dg dr : D} {ts : List Tri} {rs : List Rd} (hg : IsQ IsT dg ts) (s : S2) (hr : IsQ IsR dr rs) (hl : ts.length < 1000000) (h : (levL ts s rs).any (·.isNone) = false) : d_levels_by [.val dg, .val (eS s), .val dr] = Rn ((levL ts s rs).map eO) [dg, eS s, dr] := by
  have h1 := lev_lc hg s hr hl
  have h2 := layL_eO 7 (levL ts s rs)
  have h3 := any_non (levL ts s rs)
  rw [h] at h3
  simp only [d_levels_by, C.body, b_levels_by]
  simp [h1, h2, h3, -List.any_map, -List.any_eq_false]
/-! ### some_of, numbers_of -/
theorem t_some (s : S2) : d_some_of [.val (eS s)] = R (.int (someT s)) [eS s] := by
  rcases s with ⟨_ | a, _ | b⟩ <;> kernel_rfl
theorem t_numF {d : D} {t : Tri} (n : Nat) (here there : S2) (h : IsT d t) (hw : t.w = .floor) : d_numbers_of (n + 1) [.val d, .val (eS here), .val (eS there)] = R (eO (numF t here there)) [d, eS here, eS there] := by
  show C.body 3 8 (b_numbers_of (d_numbers_of n)) _ = _
  rcases t with ⟨w, l, u⟩
  cases hw
  have h1 : d_common [.val (eS here), .val (eS there)] = _ := t_common (some here) (some there)
  have h2 : d_common [.val (.tup [.int l, .int u]), .val (eS there)] = _ := t_common (some (some l, some u)) (some there)
  have h3 : d_common [.val (.tup [.int l, .int u]), .val (.tup [.non, eI there.2])] = _ := t_common (some (some l, some u)) (some (none, there.2))
  have h4 : eS there = .tup [eI there.1, eI there.2] := rfl
  have h5 : atD [eI there.1, eI there.2] 1 = some (eI there.2) := atD_1 _ _ _
  cases q : (comT (some here) (some there)).isNone with
  | true =>
    have e : numF ⟨.floor, l, u⟩ here there = comT (some (some l, some u)) (some there) := by simp [numF, q]
    rw [e]
    rcases h with rfl | rfl <;> simp [b_numbers_of, k_ADD, k_FLOOR, eW, f_add, h1, h2, q]
  | false =>
    have e : numF ⟨.floor, l, u⟩ here there = comT (some (some l, some u)) (some (none, there.2)) := by simp [numF, q]
    rw [e]
    rcases there with ⟨a, b⟩
    simp only at h3
    rcases h with rfl | rfl <;> simp [b_numbers_of, k_ADD, k_FLOOR, eW, f_add, h1, q] <;> simp [eS, h3]
theorem t_num {d : D} {t : Tri} (here there y : S2) (h : IsT d t) (hy : numT t here there = some y) : d_numbers_of 3 [.val d, .val (eS here), .val (eS there)] = R (eS y) [d, eS here, eS there] := by
  rcases t with ⟨w, l, u⟩
  cases w with
  | add =>
    have h1 : d_common [.val (.tup [.int l, .int u]), .val (eS (subO there.1 here.2, subO there.2 here.1))] = _ := t_common (some (some l, some u)) (some (subO there.1 here.2, subO there.2 here.1))
    have e : comT (some (some l, some u)) (some (subO there.1 here.2, subO there.2 here.1)) = some y := hy
    rw [e] at h1
    show C.body 3 8 (b_numbers_of (d_numbers_of 2)) _ = _
    rcases here with ⟨_ | a, _ | b⟩ <;> rcases there with ⟨_ | a', _ | b'⟩ <;> simp only [subO, eS, eI_none, eI_some] at h1 <;> rcases h with rfl | rfl <;> simp [b_numbers_of, k_ADD, eW, eS, h1]
  | floor =>
    have q := t_numF 2 here there h rfl
    have e : numF ⟨.floor, l, u⟩ here there = some y := hy
    rw [e] at q
    exact q
  | cap =>
    have h1 := t_turned here
    have h1' := t_turned there
    have h2 := t_about h
    have h3 : d_numbers_of 2 _ = _ := t_numF 1 (turnS here) (turnS there) (t := turnT ⟨.cap, l, u⟩) (d := eT (turnT ⟨.cap, l, u⟩)) (.inl rfl) rfl
    show C.body 3 8 (b_numbers_of (d_numbers_of 2)) _ = _
    have e : (numF (turnT ⟨.cap, l, u⟩) (turnS here) (turnS there)).map turnS = some y := hy
    cases q : numF (turnT ⟨.cap, l, u⟩) (turnS here) (turnS there) with
    | none => rw [q] at e; cases e
    | some z =>
      rw [q] at e h3
      cases e
      have h4 := t_turned z
      rcases h with rfl | rfl <;> simp only [eW] at h2 ⊢ <;> simp [b_numbers_of, k_ADD, k_FLOOR, c_add, c_floor, h1, h1', h2, h3, h4]
/-! ### numbers_by -/
theorem atD_neg (l : List D) : atD l (-1) = l.getLast? := by
  rcases List.eq_nil_or_concat l with rfl | ⟨l', x, rfl⟩
  · rfl
  · simp
theorem is2_enum {P : D → Tri → Prop} : ∀ {ds : List D} {ts : List Tri} (k : Nat), Is2 P ds ts → Is2 (fun d (p : Tri × Nat) => ∃ e, d = .tup [.int (p.2 : Nat), e] ∧ P e p.1) (enumD k ds) (ts.zipIdx k)
  | [], [], _, _ => True.intro
  | [], _ :: _, _, h => h.elim
  | _ :: _, [], _, h => h.elim
  | d :: ds, t :: ts, k, h => ⟨⟨d, rfl, h.1⟩, is2_enum (k + 1) h.2⟩
theorem last_eO {l : List (Option S2)} (h : l ≠ []) : atD (l.map eO) (-1) = some (eO (l.getLast?).join) := by
  rw [atD_neg, List.getLast?_map]
  cases e : l.getLast? with
  | none => exact absurd (List.getLast?_eq_none_iff.mp e) h
  | some x => rfl
theorem on_ne (ts : List Tri) (s : S2) (rs : List Rd) : waysOn ts s rs ≠ [] := fun h => by
  have := congrArg List.length h
  unfold waysOn at this
  rw [onT_len] at this
  cases this
theorem bk_ne (ts : List Tri) (rs : List Rd) : waysBack ts rs ≠ [] := fun h => by cases h
theorem nb_head {dg dr : D} {ts : List Tri} {rs : List Rd} (hg : IsQ IsT dg ts) (s : S2) (hr : IsQ IsR dr rs) (hl : ts.length < 1000000) :
    C.asg (C.gtup 2 (C.gcons (C.gname 3) (C.gcons (C.gname 4) C.gnil))) (C.tup (C.acons (C.ucallM [] d_ways_on (C.acons (C.var 0) (C.acons (C.var 1) (C.acons (C.var 2) C.anil)))) (C.acons (C.ucallM [] d_ways_back (C.acons (C.var 0) (C.acons (C.var 2) C.anil))) C.anil)))
      [some (.val dg), some (.val (eS s)), some (.val dr), none, none, none, none] = .nx [some (.val dg), some (.val (eS s)), some (.val dr), some (.val (.lst ((waysOn ts s rs).map eO))), some (.val (.lst ((waysBack ts rs).map eO))), none, none] := by
  have h1 := t_on hg s hr hl
  have h2 := t_wb hg hr hl
  simp [h1, h2]
theorem t_nbN {dg dr : D} {ts : List Tri} {rs : List Rd} (hg : IsQ IsT dg ts) (s : S2) (hr : IsQ IsR dr rs) (hl : ts.length < 1000000) (h : comT (onE ts s rs) (bkE ts rs) = none) : d_numbers_by [.val dg, .val (eS s), .val dr] = R .non [dg, eS s, dr] := by
  have h1 := nb_head hg s hr hl
  have h2 := last_eO (on_ne ts s rs)
  have h3 := last_eO (bk_ne ts rs)
  have h4 := t_common (onE ts s rs) (bkE ts rs)
  rw [h] at h4
  unfold onE bkE at h4
  simp only [d_numbers_by, C.body, b_numbers_by]
  simp [h1, h2, h3, h4, -ev_asg]
theorem t_nb {dg dr : D} {ts : List Tri} {rs : List Rd} (hg : IsQ IsT dg ts) (s : S2) (hr : IsQ IsR dr rs) (hl : ts.length < 1000000) (h : (comT (onE ts s rs) (bkE ts rs)).isNone = false) (hall : ∀ p ∈ ts.zipIdx, (numAt ts s rs p).isSome = true) :
    d_numbers_by [.val dg, .val (eS s), .val dr] = Rn ((ts.zipIdx.map (numAt ts s rs)).map eO) [dg, eS s, dr] := by
  have h1 := nb_head hg s hr hl
  have h2 := last_eO (on_ne ts s rs)
  have h3 := last_eO (bk_ne ts rs)
  have h4 := t_common (onE ts s rs) (bkE ts rs)
  unfold onE bkE at h4 h
  have lc : C.lc (C.iterA W.enum (C.acons (C.var 0) C.anil)) (C.gtup 2 (C.gcons (C.gname 5) (C.gcons (C.gname 6) C.gnil))) C.tyes (C.ucallM [] (d_numbers_of 3) (C.acons (C.var 6) (C.acons (C.bin O.ix (C.var 3) (C.var 5)) (C.acons (C.bin O.ix (C.var 4) (C.bin O.add (C.var 5) (C.const (.int (1))))) C.anil)))) [5, 6]
      [some (.val dg), some (.val (eS s)), some (.val dr), some (.val (.lst ((waysOn ts s rs).map eO))), some (.val (.lst ((waysBack ts rs).map eO))), none, none] = .ok (.n (.lst ((ts.zipIdx.map (numAt ts s rs)).map eO))) [some (.val dg), some (.val (eS s)), some (.val dr), some (.val (.lst ((waysOn ts s rs).map eO))), some (.val (.lst ((waysBack ts rs).map eO))), none, none] := by
    obtain ⟨ds, hd, h5⟩ := hg
    have := lc_is (P := fun d (p : Tri × Nat) => ∃ e, d = .tup [.int (p.2 : Nat), e] ∧ IsT e p.1) (it := C.iterA W.enum (C.acons (C.var 0) C.anil))
      (g := C.gtup 2 (C.gcons (C.gname 5) (C.gcons (C.gname 6) C.gnil))) (t := C.tyes) (e := C.ucallM [] (d_numbers_of 3) (C.acons (C.var 6) (C.acons (C.bin O.ix (C.var 3) (C.var 5)) (C.acons (C.bin O.ix (C.var 4) (C.bin O.add (C.var 5) (C.const (.int (1))))) C.anil)))) (vs := [5, 6])
      (sl := [some (.val dg), some (.val (eS s)), some (.val dr), some (.val (.lst ((waysOn ts s rs).map eO))), some (.val (.lst ((waysBack ts rs).map eO))), none, none])
      (sl1 := [some (.val dg), some (.val (eS s)), some (.val dr), some (.val (.lst ((waysOn ts s rs).map eO))), some (.val (.lst ((waysBack ts rs).map eO))), none, none]) (as := ts.zipIdx) (fun _ => true) (fun p => eO (numAt ts s rs p))
      (ds := enumD 0 ds) (by rcases hd with rfl | rfl <;> simp) (is2_enum 0 h5) (by rw [enumD_len, is2_len h5]; omega) (fun d p ⟨e, he, ht⟩ hp => by
        subst he
        have hs := hall p hp
        cases q1 : (waysOn ts s rs)[p.2]? with
        | none => simp [numAt, q1] at hs
        | some x1 =>
          cases q2 : (waysBack ts rs)[p.2 + 1]? with
          | none => simp [numAt, q1, q2] at hs
          | some x2 =>
            cases x1 with
            | none => simp [numAt, q1, q2] at hs
            | some here =>
              cases x2 with
              | none => simp [numAt, q1, q2] at hs
              | some there =>
                have en : numAt ts s rs p = numT p.1 here there := by simp [numAt, q1, q2]
                rw [en] at hs
                obtain ⟨y, hy⟩ := Option.isSome_iff_exists.mp hs
                have hn := t_num here there y ht hy
                have i1 : atD ((waysOn ts s rs).map eO) ((p.2 : Nat) : Int) = some (eS here) := by rw [atD_nat, List.getElem?_map, q1]; rfl
                have i2 : atD ((waysBack ts rs).map eO) (((p.2 : Nat) : Int) + 1) = some (eS there) := by
                  rw [show (((p.2 : Nat) : Int) + 1) = ((p.2 + 1 : Nat) : Int) by omega, atD_nat, List.getElem?_map, q2]; rfl
                exact ⟨[some (.val dg), some (.val (eS s)), some (.val dr), some (.val (.lst ((waysOn ts s rs).map eO))), some (.val (.lst ((waysBack ts rs).map eO))), some (.val (.int (p.2 : Nat))), some (.val e)], by simp, rfl, rfl,
                  fun _ => ⟨.v (eS y), [some (.val dg), some (.val (eS s)), some (.val dr), some (.val (.lst ((waysOn ts s rs).map eO))), some (.val (.lst ((waysBack ts rs).map eO))), some (.val (.int (p.2 : Nat))), some (.val e)], [some (.val dg), some (.val (eS s)), some (.val dr), some (.val (.lst ((waysOn ts s rs).map eO))), some (.val (.lst ((waysBack ts rs).map eO))), some (.val (.int (p.2 : Nat))), some (.val e)], by simp [i1, i2, hn], by rw [en, hy]; rfl, rfl⟩⟩)
    rw [filter_yes] at this
    rw [this, List.map_map]
    rfl
  simp only [d_numbers_by, C.body, b_numbers_by]
  simp [h1, h2, h3, h4, h, lc, -ev_asg, -List.map_map]
/-! ### behind, levels_of -/
def eRow (es : List Ev) : D := .tup (es.map eE)
theorem t_behind (x : Int) (e : Ev) : d_behind [.val (.int x), .val (eE e)] = R (.int (behT x e)) [.int x, eE e] := by
  rcases e with ⟨w, k⟩
  cases w <;> simp only [behT, ← if_max, ← if_min] <;> kernel_rfl
theorem t_done (x : Int) (e : Ev) : d__law_done [.val (.int x), .val (eE e)] = R (.int (behT x e)) [.int x, eE e] := by
  rcases e with ⟨w, k⟩
  cases w <;> simp only [behT, ← if_max, ← if_min] <;> kernel_rfl
theorem lev_loopA (dr d0 : D) : ∀ (es : List Ev) (pre : List Int) (x : Int) (j3 : Option SV), J j3 → pre.length + es.length < 1000000 → ∃ k3, J k3 ∧
    C.loop (C.gname 3) (C.drop (C.mcall M.append 2 (C.acons (C.ucallM [] d_behind (C.acons (C.bin O.ix (C.var 2) (C.un O.neg (C.const (.int (1))))) (C.acons (C.var 3) C.anil))) C.anil))) (es.map eE)
      [some (.val dr), some (.val d0), some (.own (.lst (pre.map D.int ++ [.int x]))), j3] = .nx [some (.val dr), some (.val d0), some (.own (.lst ((pre ++ levT x es).map D.int))), k3]
  | [], pre, x, j3, h, _ => ⟨j3, h, by simp [levT]⟩
  | e :: es, pre, x, j3, h, hl => by
    have hb := t_behind x e
    have hl2 : pre.length + 1 < 16777216 := by simp at hl; omega
    obtain ⟨k3, hk, q⟩ := lev_loopA dr d0 es (pre ++ [x]) (behT x e) (some (.val (eE e))) (.inr ⟨_, rfl⟩) (by simp at hl ⊢; omega)
    refine ⟨k3, hk, ?_⟩
    have e1 : pre ++ levT x (e :: es) = (pre ++ [x]) ++ levT (behT x e) es := by simp [levT]
    rw [e1, ← q, List.map_cons, loop_cons]
    rcases h with rfl | ⟨_, rfl⟩ <;> simp [hb, hl2]
theorem t_levelsA (es : List Ev) (x : Int) (hl : es.length < 1000000) : d_levels_of [.val (eRow es), .val (.int x)] = Rn ((levT x es).map D.int) [eRow es, .int x] := by
  obtain ⟨k3, _, q⟩ := lev_loopA (eRow es) (.int x) es [] x none (.inl rfl) (by simpa using hl)
  simp only [List.map_nil, List.nil_append] at q
  simp only [d_levels_of, C.body, b_levels_of]
  simp [ev_forS, eRow] at q ⊢
  simp [q]
theorem lev_loopB (dr d0 : D) : ∀ (es : List Ev) (pre : List Int) (x : Int) (j3 : Option SV), J j3 → pre.length + es.length < 1000000 → ∃ k3, J k3 ∧
    C.loop (C.gname 3) (C.drop (C.mcall M.append 2 (C.acons (C.ucallM [] d__law_done (C.acons (C.bin O.ix (C.var 2) (C.un O.neg (C.const (.int (1))))) (C.acons (C.var 3) C.anil))) C.anil))) (es.map eE)
      [some (.val dr), some (.val d0), some (.own (.lst (pre.map D.int ++ [.int x]))), j3] = .nx [some (.val dr), some (.val d0), some (.own (.lst ((pre ++ levT x es).map D.int))), k3]
  | [], pre, x, j3, h, _ => ⟨j3, h, by simp [levT]⟩
  | e :: es, pre, x, j3, h, hl => by
    have hb := t_done x e
    have hl2 : pre.length + 1 < 16777216 := by simp at hl; omega
    obtain ⟨k3, hk, q⟩ := lev_loopB dr d0 es (pre ++ [x]) (behT x e) (some (.val (eE e))) (.inr ⟨_, rfl⟩) (by simp at hl ⊢; omega)
    refine ⟨k3, hk, ?_⟩
    have e1 : pre ++ levT x (e :: es) = (pre ++ [x]) ++ levT (behT x e) es := by simp [levT]
    rw [e1, ← q, List.map_cons, loop_cons]
    rcases h with rfl | ⟨_, rfl⟩ <;> simp [hb, hl2]
theorem t_levelsB (es : List Ev) (x : Int) (hl : es.length < 1000000) : d__law_levels [.val (eRow es), .val (.int x)] = Rn ((levT x es).map D.int) [eRow es, .int x] := by
  obtain ⟨k3, _, q⟩ := lev_loopB (eRow es) (.int x) es [] x none (.inl rfl) (by simpa using hl)
  simp only [List.map_nil, List.nil_append] at q
  simp only [d__law_levels, C.body, b__law_levels]
  simp [ev_forS, eRow] at q ⊢
  simp [q]
/-! ### settled -/
theorem all_some {α : Type} : ∀ {l : List (Option α)}, l.any (·.isNone) = false → ∃ m : List α, l = m.map some
  | [], _ => ⟨[], rfl⟩
  | none :: l, h => by simp at h
  | some a :: l, h => by
    obtain ⟨m, rfl⟩ := all_some (l := l) (by simpa using h)
    exact ⟨a :: m, rfl⟩
theorem enumD_map {α : Type} (f : α → D) : ∀ (k : Nat) (l : List α), enumD k (l.map f) = (l.zipIdx k).map fun p => .tup [.int (p.2 : Nat), f p.1]
  | _, [] => rfl
  | k, a :: l => by simp [enumD_map f (k + 1) l]
theorem settled_lc (dg d1 dr : D) (ls : List S2) (hl : ls.length ≤ 1000000) :
    C.lc (C.iterA W.enum (C.acons (C.var 3) C.anil)) (C.gtup 2 (C.gcons (C.gname 4) (C.gcons (C.gtup 2 (C.gcons (C.gname 5) (C.gcons (C.gname 6) C.gnil))) C.gnil))) (C.tand (C.tv (C.bin O.notN (C.var 5) (C.const (.non)))) (C.tv (C.bin O.eq (C.var 5) (C.var 6)))) (C.var 4) [4, 5, 6]
      [some (.val dg), some (.val d1), some (.val dr), some (.own (.lst (ls.map eS))), none, none, none] = .ok (.n (.lst ((settledT ls).map fun (i : Nat) => D.int i))) [some (.val dg), some (.val d1), some (.val dr), some (.val (.lst (ls.map eS))), none, none, none] := by
  have := lc_is (P := fun d (p : S2 × Nat) => d = .tup [.int (p.2 : Nat), eS p.1]) (it := C.iterA W.enum (C.acons (C.var 3) C.anil))
    (g := C.gtup 2 (C.gcons (C.gname 4) (C.gcons (C.gtup 2 (C.gcons (C.gname 5) (C.gcons (C.gname 6) C.gnil))) C.gnil))) (t := C.tand (C.tv (C.bin O.notN (C.var 5) (C.const (.non)))) (C.tv (C.bin O.eq (C.var 5) (C.var 6)))) (e := C.var 4) (vs := [4, 5, 6])
    (sl := [some (.val dg), some (.val d1), some (.val dr), some (.own (.lst (ls.map eS))), none, none, none]) (sl1 := [some (.val dg), some (.val d1), some (.val dr), some (.val (.lst (ls.map eS))), none, none, none]) (as := ls.zipIdx) (fun p => stB p.1) (fun p => .int (p.2 : Nat))
    (ds := enumD 0 (ls.map eS)) (by simp) (by rw [enumD_map]; exact is2_map _ _) (by rw [enumD_len, List.length_map]; exact hl) (fun d p hd _ => by
      subst hd
      rcases p with ⟨⟨a, b⟩, i⟩
      refine ⟨[some (.val dg), some (.val d1), some (.val dr), some (.val (.lst (ls.map eS))), some (.val (.int (i : Nat))), some (.val (eI a)), some (.val (eI b))], by simp [eS], ?_, rfl, fun _ => ⟨.v (.int (i : Nat)), [some (.val dg), some (.val d1), some (.val dr), some (.val (.lst (ls.map eS))), some (.val (.int (i : Nat))), some (.val (eI a)), some (.val (eI b))], [some (.val dg), some (.val d1), some (.val dr), some (.val (.lst (ls.map eS))), some (.val (.int (i : Nat))), some (.val (eI a)), some (.val (eI b))], rfl, rfl, rfl⟩⟩
      rcases a with _ | a <;> rcases b with _ | b <;> simp [stB]
      by_cases h : a = b <;> simp [h])
  rw [this]
  unfold settledT
  rw [List.map_map]
  rfl
theorem t_setN {dg dr : D} {ts : List Tri} {rs : List Rd} (hg : IsQ IsT dg ts) (s : S2) (hr : IsQ IsR dr rs) (hl : ts.length < 1000000) (h : (levL ts s rs).any (·.isNone) = true) : d_settled [.val dg, .val (eS s), .val dr] = R .non [dg, eS s, dr] := by
  have h1 := t_levN hg s hr hl h
  simp only [d_settled, C.body, b_settled]
  simp [h1]
theorem t_set {dg dr : D} {ts : List Tri} {rs : List Rd} (hg : IsQ IsT dg ts) (s : S2) (hr : IsQ IsR dr rs) (hl : ts.length < 1000000) {ls : List S2} (h : levL ts s rs = ls.map some) : d_settled [.val dg, .val (eS s), .val dr] = R (.tup ((settledT ls).map fun (i : Nat) => D.int i)) [dg, eS s, dr] := by
  have h0 : (levL ts s rs).any (·.isNone) = false := by rw [h]; simp
  have h1 := t_lev hg s hr hl h0
  have e : (levL ts s rs).map eO = ls.map eS := by rw [h, List.map_map]; rfl
  rw [e] at h1
  have hll : ls.length ≤ 1000000 := by
    have := levL_len ts s rs
    rw [h, List.length_map] at this
    omega
  have h2 := settled_lc dg (eS s) dr ls hll
  simp only [d_settled, C.body, b_settled]
  simp [h1, h2]
/-! ### going -/
theorem lev_ne (x : Int) (es : List Ev) : levT x es ≠ [] := by cases es <;> simp [levT]
theorem lev_last : ∀ (es : List Ev) (x : Int), (levT x es).getLast? = some (es.foldl behT x)
  | [], x => rfl
  | e :: es, x => by
    have h := lev_last es (behT x e)
    unfold levT
    rw [List.getLast?_cons, h]
    rfl
theorem isT_0 {d : D} {t : Tri} (h : IsT d t) (sl : Sl) : ∃ ds, (d = .tup ds ∨ d = .lst ds) ∧ ds = [eW t.w, .int t.l, .int t.h] := by
  rcases h with rfl | rfl
  · exact ⟨_, .inl rfl, rfl⟩
  · exact ⟨_, .inr rfl, rfl⟩
theorem go_loop (dg d1 dr : D) (l3 : List D) (bk : List (Option S2)) (x0 : Int) : ∀ (ds : List D) (ts : List Tri), Is2 IsT ds ts → ∀ (k : Nat) (pre es : List Ev) (j7 j8 j9 : Option SV), J j7 → J j8 → J j9 → pre.length + ts.length < 900000 → goT bk k (pre.foldl behT x0) ts = some es →
    ∃ k7 k8 k9, C.loop (C.gtup 2 (C.gcons (C.gname 7) (C.gcons (C.gname 8) C.gnil))) (C.seq (C.set 9 (C.bin O.ix (C.ucallM [] d_levels_of (C.acons (C.call O.tuple (C.acons (C.var 6) C.anil)) (C.acons (C.var 5) C.anil))) (C.un O.neg (C.const (.int (1))))))
    (C.drop (C.mcall M.append 6 (C.acons (C.tup (C.acons (C.bin O.ix (C.var 8) (C.const (.int (0)))) (C.acons (C.ucallM [] d_some_of (C.acons (C.ucallM [] (d_numbers_of 3) (C.acons (C.var 8) (C.acons (C.tup (C.acons (C.var 9) (C.acons (C.var 9) C.anil))) (C.acons (C.bin O.ix (C.var 4) (C.bin O.add (C.var 7) (C.const (.int (1))))) C.anil)))) C.anil)) C.anil))) C.anil)))) (enumD k ds)
      [some (.val dg), some (.val d1), some (.val dr), some (.own (.lst l3)), some (.own (.lst (bk.map eO))), some (.val (.int x0)), some (.own (.lst (pre.map eE))), j7, j8, j9] = .nx [some (.val dg), some (.val d1), some (.val dr), some (.own (.lst l3)), some (.own (.lst (bk.map eO))), some (.val (.int x0)), some (.own (.lst ((pre ++ es).map eE))), k7, k8, k9]
  | [], [], _, k, pre, es, j7, j8, j9, _, _, _, _, h => by
    cases h
    exact ⟨j7, j8, j9, by simp⟩
  | [], _ :: _, h, _, _, _, _, _, _, _, _, _, _, _ => h.elim
  | _ :: _, [], h, _, _, _, _, _, _, _, _, _, _, _ => h.elim
  | d :: ds, t :: ts, ⟨hd, ht⟩, k, pre, es, j7, j8, j9, h7, h8, h9, hl, h => by
    unfold goT at h
    cases q1 : (bk[k + 1]?).join with
    | none => rw [q1] at h; cases h
    | some th =>
      rw [q1] at h
      simp only at h
      cases q2 : numT t (some (pre.foldl behT x0), some (pre.foldl behT x0)) th with
      | none => rw [q2] at h; cases h
      | some y =>
        rw [q2] at h
        simp only at h
        cases q3 : goT bk (k + 1) (behT (pre.foldl behT x0) (t.w, someT y)) ts with
        | none => rw [q3] at h; cases h
        | some es2 =>
          rw [q3] at h
          cases h
          have hn : d_numbers_of 3 [.val d, .val (.tup [.int (pre.foldl behT x0), .int (pre.foldl behT x0)]), .val (eS th)] = _ := t_num (some (pre.foldl behT x0), some (pre.foldl behT x0)) th y hd q2
          have hs := t_some y
          have hlv := t_levelsA pre x0 (by simp at hl; omega)
          unfold eRow at hlv
          have hla : atD ((levT x0 pre).map D.int) (-1) = some (.int (pre.foldl behT x0)) := by rw [atD_neg, List.getLast?_map, lev_last]; rfl
          have hb : bk[k + 1]? = some (some th) := by
            cases q : bk[k + 1]? with
            | none => rw [q] at q1; cases q1
            | some z => rw [q] at q1; exact congrArg some q1
          have i2 : atD (bk.map eO) (((k : Nat) : Int) + 1) = some (eS th) := by
            rw [show (((k : Nat) : Int) + 1) = ((k + 1 : Nat) : Int) by omega, atD_nat, List.getElem?_map, hb]; rfl
          have hl2 : pre.length < 16777216 := by simp at hl; omega
          obtain ⟨k7, k8, k9, q⟩ := go_loop dg d1 dr l3 bk x0 ds ts ht (k + 1) (pre ++ [(t.w, someT y)]) es2 (some (.val (.int k))) (some (.val d)) (some (.val (.int (pre.foldl behT x0)))) (.inr ⟨_, rfl⟩) (.inr ⟨_, rfl⟩) (.inr ⟨_, rfl⟩) (by simp at hl ⊢; omega) (by rw [List.foldl_append]; exact q3)
          refine ⟨k7, k8, k9, ?_⟩
          have e1 : pre ++ (t.w, someT y) :: es2 = (pre ++ [(t.w, someT y)]) ++ es2 := by simp
          have e2 : eE (t.w, someT y) = .tup [eW t.w, .int (someT y)] := rfl
          rw [e1, ← q]
          show C.loop _ _ (.tup [.int k, d] :: enumD (k + 1) ds) _ = _
          rw [loop_cons]
          rcases h7 with rfl | ⟨_, rfl⟩ <;> rcases h8 with rfl | ⟨_, rfl⟩ <;> rcases h9 with rfl | ⟨_, rfl⟩ <;> rcases hd with rfl | rfl <;> simp [hlv, hla, i2, hn, hs, hl2, e2]
theorem t_goN {dg dr : D} {ts : List Tri} {rs : List Rd} (hg : IsQ IsT dg ts) (s : S2) (hr : IsQ IsR dr rs) (hl : ts.length < 900000) (h : (levL ts s rs).any (·.isNone) = true) : d_going [.val dg, .val (eS s), .val dr] = R .non [dg, eS s, dr] := by
  have h1 := t_levN hg s hr (by omega) h
  simp only [d_going, C.body, b_going]
  simp [h1]
theorem t_go {dg dr : D} {ts : List Tri} {rs : List Rd} (hg : IsQ IsT dg ts) (s : S2) (hr : IsQ IsR dr rs) (hl : ts.length < 900000) {l0 : S2} {ls : List S2} (h : levL ts s rs = (l0 :: ls).map some) {es : List Ev} (hgo : goT (waysBack ts rs) 0 (someT l0) ts = some es) :
    d_going [.val dg, .val (eS s), .val dr] = R (.tup [.int (someT l0), eRow es]) [dg, eS s, dr] := by
  have h0 : (levL ts s rs).any (·.isNone) = false := by rw [h]; simp
  have h1 := t_lev hg s hr (by omega) h0
  have e : (levL ts s rs).map eO = eS l0 :: ls.map eS := by rw [h, List.map_map]; rfl
  rw [e] at h1
  have h2 := t_wb hg hr (by omega)
  have h3 := t_some l0
  obtain ⟨ds, hd, h4⟩ := hg
  obtain ⟨k7, k8, k9, q⟩ := go_loop dg (eS s) dr (eS l0 :: ls.map eS) (waysBack ts rs) (someT l0) ds ts h4 0 [] es none none none (.inl rfl) (.inl rfl) (.inl rfl) (by simpa using hl) hgo
  simp only [List.map_nil, List.nil_append] at q
  simp only [d_going, C.body, b_going]
  rcases hd with rfl | rfl <;> simp [h1, h2, h3, ev_forS, q, eRow]
end RF.L
set_option maxRecDepth 100000
set_option maxHeartbeats 1000000
namespace RF.L
open PySem RF RF.C
/-! ### first_wrong -/
theorem is2_filter {α : Type} {P : D → α → Prop} (p : α → Bool) : ∀ {ds : List D} {as : List α}, Is2 P ds as → ∃ es, Is2 P es (as.filter p) ∧ ∀ {g : GDen} {t : TDen} {e : Den} {vs : List Nat} {sl slc : Sl}, wipeS slc vs = wipeS sl vs →
      (∀ d a, P d a → a ∈ as → ∃ sl2, g.run d (wipeS sl vs) = some sl2 ∧ t sl2 = .ok (p a) sl2 ∧ wipeS sl2 vs = wipeS sl vs ∧ (p a = true → ∃ r sl3 sl4, e sl2 = .ok r sl3 ∧ frz r sl3 = some (d, sl4) ∧ wipeS sl4 vs = wipeS sl vs)) →
      ∃ sl', C.lcrun g t e vs ds slc = some (es, sl') ∧ wipeS sl' vs = wipeS sl vs
  | [], [], _ => ⟨[], True.intro, fun hw _ => ⟨_, rfl, hw⟩⟩
  | [], _ :: _, h => h.elim
  | _ :: _, [], h => h.elim
  | d :: ds, a :: as, ⟨hd, hs⟩ => by
    obtain ⟨es, h1, h2⟩ := is2_filter p hs
    cases hp : p a with
    | false =>
      refine ⟨es, by rw [List.filter_cons_of_neg (by simp [hp])]; exact h1, fun {g t e vs sl slc} hw h => ?_⟩
      obtain ⟨sl2, e1, e2, e3, e4⟩ := h d a hd (by simp)
      rw [hp] at e2
      rw [lcrun_cons, hw, e1]
      simp only
      rw [e2]
      exact h2 e3 fun d' a' k1 k2 => h d' a' k1 (by simp [k2])
    | true =>
      refine ⟨d :: es, by rw [List.filter_cons_of_pos hp]; exact ⟨hd, h1⟩, fun {g t e vs sl slc} hw h => ?_⟩
      obtain ⟨sl2, e1, e2, e3, e4⟩ := h d a hd (by simp)
      rw [hp] at e2
      obtain ⟨r, sl3, sl4, q1, q2, q3⟩ := e4 hp
      obtain ⟨sl', k1, k2⟩ := h2 q3 fun d' a' k1 k2 => h d' a' k1 (by simp [k2])
      refine ⟨sl', ?_, k2⟩
      rw [lcrun_cons, hw, e1]
      simp only
      rw [e2]
      simp only [q1, q2, k1]
def fwT (ts : List Tri) (s : S2) (rs : List Rd) : Option Int := (sortI (O.dedup (rs.map (·.1)))).find? (wrongB ts s rs)
theorem fw_body {dg dr : D} {ts : List Tri} {rs : List Rd} (hg : IsQ IsT dg ts) (s : S2) (hr : IsQ IsR dr rs) (hl : ts.length < 900000) (hlr : rs.length < 64) (m : Int) :
    C.ifS (C.tv (C.bin O.isN (C.ucallM [] d_levels_by (C.acons (C.var 0) (C.acons (C.var 1) (C.acons (C.lc (C.iter (C.var 2)) (C.gname 6) (C.tv (C.bin O.le (C.bin O.ix (C.var 6) (C.const (.int (0)))) (C.var 3))) (C.var 6) [6]) C.anil)))) (C.const (.non)))) (C.ret (C.var 3)) C.pass
      [some (.val dg), some (.val (eS s)), some (.val dr), some (.val (.int m)), none, none, none] = if wrongB ts s rs m = true then .rt (.v (.int m)) [some (.val dg), some (.val (eS s)), some (.val dr), some (.val (.int m)), none, none, none] else .nx [some (.val dg), some (.val (eS s)), some (.val dr), some (.val (.int m)), none, none, none] := by
  obtain ⟨ds, hd, h2⟩ := hr
  obtain ⟨es, k1, k2⟩ := is2_filter (fun (r : Rd) => decide (r.1 ≤ m)) h2
  have lc : C.lc (C.iter (C.var 2)) (C.gname 6) (C.tv (C.bin O.le (C.bin O.ix (C.var 6) (C.const (.int (0)))) (C.var 3))) (C.var 6) [6] [some (.val dg), some (.val (eS s)), some (.val dr), some (.val (.int m)), none, none, none] = .ok (.n (.lst es)) [some (.val dg), some (.val (eS s)), some (.val dr), some (.val (.int m)), none, none, none] := by
    obtain ⟨sl', q1, q2⟩ := k2 (g := C.gname 6) (t := C.tv (C.bin O.le (C.bin O.ix (C.var 6) (C.const (.int (0)))) (C.var 3))) (e := C.var 6) (vs := [6]) (sl := [some (.val dg), some (.val (eS s)), some (.val dr), some (.val (.int m)), none, none, none]) (slc := wipeS [some (.val dg), some (.val (eS s)), some (.val dr), some (.val (.int m)), none, none, none] [6]) (wipe_idem _ _) fun d r hdr _ =>
      ⟨[some (.val dg), some (.val (eS s)), some (.val dr), some (.val (.int m)), none, none, some (.val d)], by simp, by rcases hdr with rfl | rfl <;> simp, rfl, fun _ => ⟨.v d, [some (.val dg), some (.val (eS s)), some (.val dr), some (.val (.int m)), none, none, some (.val d)], [some (.val dg), some (.val (eS s)), some (.val dr), some (.val (.int m)), none, none, some (.val d)], rfl, rfl, rfl⟩⟩
    have hle : es.length ≤ 1000000 := by
      rw [is2_len k1]
      have := List.length_filter_le (fun (r : Rd) => decide (r.1 ≤ m)) rs
      omega
    unfold C.lc
    have hit : C.iter (C.var 2) [some (.val dg), some (.val (eS s)), some (.val dr), some (.val (.int m)), none, none, none] = .ok ds [some (.val dg), some (.val (eS s)), some (.val dr), some (.val (.int m)), none, none, none] := by
      rcases hd with rfl | rfl <;> simp
    rw [hit]
    simp only
    rw [q1]
    simp only
    rw [if_pos hle, back_same q2]
  have hq : IsQ IsR (.lst es) (rs.filter fun r => decide (r.1 ≤ m)) := ⟨es, .inr rfl, k1⟩
  cases hw : wrongB ts s rs m with
  | true =>
    have h3 := t_levN hg s hq (by omega) hw
    simp [lc, h3]
  | false =>
    have h3 := t_lev hg s hq (by omega) hw
    simp [lc, h3]
theorem fw_loop {dg dr : D} {ts : List Tri} {rs : List Rd} (hg : IsQ IsT dg ts) (s : S2) (hr : IsQ IsR dr rs) (hl : ts.length < 900000) (hlr : rs.length < 64) : ∀ (ms : List Int) (j3 : Option SV), J j3 →
    (∃ m sl, ms.find? (wrongB ts s rs) = some m ∧ C.loop (C.gname 3) (C.ifS (C.tv (C.bin O.isN (C.ucallM [] d_levels_by (C.acons (C.var 0) (C.acons (C.var 1) (C.acons (C.lc (C.iter (C.var 2)) (C.gname 6) (C.tv (C.bin O.le (C.bin O.ix (C.var 6) (C.const (.int (0)))) (C.var 3))) (C.var 6) [6]) C.anil)))) (C.const (.non)))) (C.ret (C.var 3)) C.pass) (ms.map D.int)
      [some (.val dg), some (.val (eS s)), some (.val dr), j3, none, none, none] = .rt (.v (.int m)) sl) ∨
    (ms.find? (wrongB ts s rs) = none ∧ ∃ sl, C.loop (C.gname 3) (C.ifS (C.tv (C.bin O.isN (C.ucallM [] d_levels_by (C.acons (C.var 0) (C.acons (C.var 1) (C.acons (C.lc (C.iter (C.var 2)) (C.gname 6) (C.tv (C.bin O.le (C.bin O.ix (C.var 6) (C.const (.int (0)))) (C.var 3))) (C.var 6) [6]) C.anil)))) (C.const (.non)))) (C.ret (C.var 3)) C.pass) (ms.map D.int)
      [some (.val dg), some (.val (eS s)), some (.val dr), j3, none, none, none] = .nx sl)
  | [], j3, _ => .inr ⟨rfl, _, rfl⟩
  | m :: ms, j3, h => by
    have hb := fw_body hg s hr hl hlr m
    have run : (C.gname 3).run (.int m) [some (.val dg), some (.val (eS s)), some (.val dr), j3, none, none, none] = some [some (.val dg), some (.val (eS s)), some (.val dr), some (.val (.int m)), none, none, none] := by
      rcases h with rfl | ⟨_, rfl⟩ <;> rfl
    rw [List.map_cons, loop_cons, run]
    simp only
    rw [hb, List.find?_cons]
    cases hw : wrongB ts s rs m with
    | true => exact .inl ⟨m, _, rfl, rfl⟩
    | false => exact fw_loop hg s hr hl hlr ms (some (.val (.int m))) (.inr ⟨_, rfl⟩)
theorem ints_map (ms : List Int) : intsOf (ms.map D.int) = some ms := by
  induction ms with
  | nil => rfl
  | cons m ms ih => simp [ih]
theorem t_fw {dg dr : D} {ts : List Tri} {rs : List Rd} (hg : IsQ IsT dg ts) (s : S2) (hr : IsQ IsR dr rs) (hl : ts.length < 900000) (hlr : rs.length < 64) : d_first_wrong [.val dg, .val (eS s), .val dr] = R (eI (fwT ts s rs)) [dg, eS s, dr] := by
  have lp := fw_loop hg s hr hl hlr (sortI (O.dedup (rs.map (·.1)))) none (.inl rfl)
  obtain ⟨ds, hd, h2⟩ := hr
  have lc : C.lc (C.iter (C.var 2)) (C.gtup 2 (C.gcons (C.gname 4) (C.gcons (C.gname 5) C.gnil))) C.tyes (C.var 4) [4, 5] [some (.val dg), some (.val (eS s)), some (.val dr), none, none, none, none] = .ok (.n (.lst ((rs.map (·.1)).map D.int))) [some (.val dg), some (.val (eS s)), some (.val dr), none, none, none, none] := by
    have := lc_is (P := IsR) (it := C.iter (C.var 2)) (g := C.gtup 2 (C.gcons (C.gname 4) (C.gcons (C.gname 5) C.gnil))) (t := C.tyes) (e := C.var 4) (vs := [4, 5]) (sl := [some (.val dg), some (.val (eS s)), some (.val dr), none, none, none, none]) (sl1 := [some (.val dg), some (.val (eS s)), some (.val dr), none, none, none, none]) (as := rs) (fun _ => true) (fun r => .int r.1)
      (ds := ds) (by rcases hd with rfl | rfl <;> simp) h2 (by rw [is2_len h2]; omega) (fun d r hdr _ => ⟨[some (.val dg), some (.val (eS s)), some (.val dr), none, some (.val (.int r.1)), some (.val (.int r.2)), none], by rcases hdr with rfl | rfl <;> simp, rfl, rfl, fun _ => ⟨.v (.int r.1), [some (.val dg), some (.val (eS s)), some (.val dr), none, some (.val (.int r.1)), some (.val (.int r.2)), none], [some (.val dg), some (.val (eS s)), some (.val dr), none, some (.val (.int r.1)), some (.val (.int r.2)), none], rfl, rfl, rfl⟩⟩)
    rw [filter_yes] at this
    rw [this, List.map_map]
    rfl
  have hz : (rs.map (·.1)).length < 64 := by rw [List.length_map]; exact hlr
  have hss : O.sset (.lst ((rs.map (·.1)).map D.int)) = some (.n (.lst ((sortI (O.dedup (rs.map (·.1)))).map D.int))) := by
    unfold O.sset
    simp only
    rw [ints_map]
    simp only [Option.bind_some]
    rw [if_pos hz]
  have hit : C.iter (C.un O.sset (C.lc (C.iter (C.var 2)) (C.gtup 2 (C.gcons (C.gname 4) (C.gcons (C.gname 5) C.gnil))) C.tyes (C.var 4) [4, 5])) [some (.val dg), some (.val (eS s)), some (.val dr), none, none, none, none] = .ok ((sortI (O.dedup (rs.map (·.1)))).map D.int) [some (.val dg), some (.val (eS s)), some (.val dr), none, none, none, none] := by
    simp only [ev_iter, ev_un, lc]
    simp only [opd, rd, Cell.d, hss, ofO, frz]
  simp only [d_first_wrong, C.body, b_first_wrong]
  rcases lp with ⟨m, sl, e1, e2⟩ | ⟨e1, sl, e2⟩
  · have e : fwT ts s rs = some m := e1
    rw [e]
    simp [ev_forS, hit, e2, -ev_iter]
  · have e : fwT ts s rs = none := e1
    rw [e]
    simp [ev_forS, hit, e2, -ev_iter]
end RF.L
set_option maxRecDepth 100000
set_option maxHeartbeats 1000000
namespace RF.L
open PySem RF RF.C
/-! ### needless_readings -/
theorem lcrun_out {α β : Type} {P : D → α → Prop} {Q : D → β → Prop} {g : GDen} {t : TDen} {e : Den} {vs : List Nat} {sl : Sl} (p : α → Bool) (f : α → β) : ∀ (ds : List D) (as : List α), Is2 P ds as → ∀ (slc : Sl), wipeS slc vs = wipeS sl vs →
    (∀ d a, P d a → a ∈ as → ∃ sl2, g.run d (wipeS sl vs) = some sl2 ∧ t sl2 = .ok (p a) sl2 ∧ wipeS sl2 vs = wipeS sl vs ∧ (p a = true → ∃ y r sl3 sl4, Q y (f a) ∧ e sl2 = .ok r sl3 ∧ frz r sl3 = some (y, sl4) ∧ wipeS sl4 vs = wipeS sl vs)) →
    ∃ es sl', Is2 Q es ((as.filter p).map f) ∧ C.lcrun g t e vs ds slc = some (es, sl') ∧ wipeS sl' vs = wipeS sl vs
  | [], [], _, slc, hw, _ => ⟨[], slc, True.intro, rfl, hw⟩
  | [], _ :: _, h, _, _, _ => h.elim
  | _ :: _, [], h, _, _, _ => h.elim
  | d :: ds, a :: as, ⟨hd, hs⟩, slc, hw, h => by
    obtain ⟨sl2, e1, e2, e3, e4⟩ := h d a hd (by simp)
    rw [lcrun_cons, hw, e1]
    simp only
    rw [e2]
    cases hp : p a with
    | false =>
      rw [List.filter_cons_of_neg (by simp [hp])]
      exact lcrun_out p f ds as hs sl2 e3 fun d' a' h1 h2 => h d' a' h1 (by simp [h2])
    | true =>
      obtain ⟨y, r, sl3, sl4, q0, q1, q2, q3⟩ := e4 hp
      obtain ⟨es, sl', k0, k1, k2⟩ := lcrun_out p f ds as hs sl4 q3 fun d' a' h1 h2 => h d' a' h1 (by simp [h2])
      refine ⟨y :: es, sl', ?_, ?_, k2⟩
      · rw [List.filter_cons_of_pos hp, List.map_cons]
        exact ⟨q0, k0⟩
      · simp only [q1, q2, k1]
theorem lc_out {α β : Type} {P : D → α → Prop} {Q : D → β → Prop} {it : IDen} {g : GDen} {t : TDen} {e : Den} {vs : List Nat} {sl sl1 : Sl} {ds : List D} {as : List α} (p : α → Bool) (f : α → β) (hit : it sl = .ok ds sl1) (hs : Is2 P ds as) (hl : ds.length ≤ 1000000)
    (h : ∀ d a, P d a → a ∈ as → ∃ sl2, g.run d (wipeS sl1 vs) = some sl2 ∧ t sl2 = .ok (p a) sl2 ∧ wipeS sl2 vs = wipeS sl1 vs ∧ (p a = true → ∃ y r sl3 sl4, Q y (f a) ∧ e sl2 = .ok r sl3 ∧ frz r sl3 = some (y, sl4) ∧ wipeS sl4 vs = wipeS sl1 vs)) :
    ∃ es, Is2 Q es ((as.filter p).map f) ∧ C.lc it g t e vs sl = .ok (.n (.lst es)) sl1 := by
  obtain ⟨es, sl', k0, k1, k2⟩ := lcrun_out p f ds as hs (wipeS sl1 vs) (wipe_idem sl1 vs) h
  refine ⟨es, k0, ?_⟩
  unfold C.lc
  rw [hit]
  simp only
  rw [k1]
  simp only
  rw [if_pos, back_same k2]
  rw [is2_len k0, List.length_map]
  refine Nat.le_trans (List.length_filter_le _ _) ?_
  rw [← is2_len hs]
  exact hl
theorem is2_enumR {P : D → Rd → Prop} : ∀ {ds : List D} {rs : List Rd} (k : Nat), Is2 P ds rs → Is2 (fun d (p : Rd × Nat) => ∃ e, d = .tup [.int (p.2 : Nat), e] ∧ P e p.1) (enumD k ds) (rs.zipIdx k)
  | [], [], _, _ => True.intro
  | [], _ :: _, _, h => h.elim
  | _ :: _, [], _, h => h.elim
  | d :: ds, t :: ts, k, h => ⟨⟨d, rfl, h.1⟩, is2_enumR (k + 1) h.2⟩
theorem eqv_eS (x : S2) (l : Int) : D.eqv (eS x) (.tup [.int l, .int l]) = decide (x = (some l, some l)) := by
  rcases x with ⟨_ | a, _ | b⟩ <;> simp [eS]
  by_cases h1 : a = l <;> by_cases h2 : b = l <;> simp [h1, h2]
theorem lay_eS (n : Nat) (x : S2) : D.lay (n + 1) (eS x) = true := lay_eO n (some x)
theorem nd_loop {dg dr : D} {ts : List Tri} {rs : List Rd} (hg : IsQ IsT dg ts) (s : S2) (hr : IsQ IsR dr rs) (hl : ts.length < 900000) (hlr : rs.length < 900000)
    (hall : ∀ i, (levL ts s (dropAt rs i)).any (·.isNone) = false) (hm : ∀ r ∈ rs, 0 ≤ r.1 ∧ r.1 ≤ ts.length) : ∀ (ds : List D) (as : List (Rd × Nat)), Is2 (fun d (p : Rd × Nat) => ∃ e, d = .tup [.int (p.2 : Nat), e] ∧ IsR e p.1) ds as → (∀ p ∈ as, p.1 ∈ rs) →
    ∀ (pre : List Nat) (j4 j5 j6 j7 : Option SV), J j4 → J j6 → J j7 → J j5 → pre.length + as.length < 900000 →
    ∃ k4 k5 k6 k7, C.loop (C.gtup 2 (C.gcons (C.gname 4) (C.gcons (C.gtup 2 (C.gcons (C.gname 6) (C.gcons (C.gname 7) C.gnil))) C.gnil))) (C.seq (C.set 5 (C.lc (C.iterA W.enum (C.acons (C.var 2) C.anil)) (C.gtup 2 (C.gcons (C.gname 8) (C.gcons (C.gname 9) C.gnil))) (C.tv (C.bin O.ne (C.var 8) (C.var 4))) (C.var 9) [8, 9]))
    (C.ifS (C.tv (C.bin O.eq (C.call O.tuple (C.acons (C.bin O.ix (C.ucallM [] d_levels_by (C.acons (C.var 0) (C.acons (C.var 1) (C.acons (C.var 5) C.anil)))) (C.var 6)) C.anil)) (C.tup (C.acons (C.var 7) (C.acons (C.var 7) C.anil))))) (C.drop (C.mcall M.append 3 (C.acons (C.var 4) C.anil))) C.pass)) ds
      [some (.val dg), some (.val (eS s)), some (.val dr), some (.own (.lst (pre.map fun (i : Nat) => D.int i))), j4, j5, j6, j7, none, none] = .nx [some (.val dg), some (.val (eS s)), some (.val dr), some (.own (.lst ((pre ++ (as.filter (ndB ts s rs)).map (·.2)).map fun (i : Nat) => D.int i))), k4, k5, k6, k7, none, none]
  | [], [], _, _, pre, j4, j5, j6, j7, _, _, _, _, _ => ⟨j4, j5, j6, j7, by simp⟩
  | [], _ :: _, h, _, _, _, _, _, _, _, _, _, _, _ => h.elim
  | _ :: _, [], h, _, _, _, _, _, _, _, _, _, _, _ => h.elim
  | d :: ds, ⟨r, i⟩ :: as, ⟨⟨e, he, hre⟩, hs⟩, hin, pre, j4, j5, j6, j7, h4, h6, h7, h5, hpl => by
    subst he
    have hrm := hm r (hin (r, i) (by simp))
    obtain ⟨ds0, hd0, h20⟩ := id hr
    have hl2 : pre.length < 16777216 := by simp at hpl; omega
    obtain ⟨es, kq, lc⟩ := lc_out (P := fun d (p : Rd × Nat) => ∃ e, d = .tup [.int (p.2 : Nat), e] ∧ IsR e p.1) (Q := IsR) (it := C.iterA W.enum (C.acons (C.var 2) C.anil)) (g := C.gtup 2 (C.gcons (C.gname 8) (C.gcons (C.gname 9) C.gnil))) (t := C.tv (C.bin O.ne (C.var 8) (C.var 4))) (e := C.var 9) (vs := [8, 9])
      (sl := [some (.val dg), some (.val (eS s)), some (.val dr), some (.own (.lst (pre.map fun (i : Nat) => D.int i))), some (.val (.int (i : Nat))), j5, some (.val (.int r.1)), some (.val (.int r.2)), none, none])
      (sl1 := [some (.val dg), some (.val (eS s)), some (.val dr), some (.own (.lst (pre.map fun (i : Nat) => D.int i))), some (.val (.int (i : Nat))), j5, some (.val (.int r.1)), some (.val (.int r.2)), none, none])
      (ds := enumD 0 ds0) (as := rs.zipIdx) (fun p => !decide (p.2 = i)) (·.1) (by rcases hd0 with rfl | rfl <;> simp) (is2_enumR 0 h20) (by rw [enumD_len, is2_len h20]; omega) (fun d p ⟨e, he, hpe⟩ _ => by
        subst he
        refine ⟨[some (.val dg), some (.val (eS s)), some (.val dr), some (.own (.lst (pre.map fun (i : Nat) => D.int i))), some (.val (.int (i : Nat))), j5, some (.val (.int r.1)), some (.val (.int r.2)), some (.val (.int (p.2 : Nat))), some (.val e)], by simp, ?_, rfl, fun _ => ⟨e, .v e, _, _, hpe, rfl, rfl, rfl⟩⟩
        by_cases q : p.2 = i
        · simp [q]
        · have q' : ¬ ((p.2 : Int) = (i : Int)) := by omega
          simp [q, q'])
    have hq : IsQ IsR (.lst es) (dropAt rs i) := ⟨es, .inr rfl, kq⟩
    have hlv := t_lev hg s hq (by omega) (hall i)
    obtain ⟨ls, hls⟩ := all_some (hall i)
    have hlen : ls.length = ts.length + 1 := by
      have := levL_len ts s (dropAt rs i)
      rwa [hls, List.length_map] at this
    have hmn : r.1.toNat < ls.length := by omega
    obtain ⟨x, hx⟩ : ∃ x, ls[r.1.toNat]? = some x := ⟨_, List.getElem?_eq_getElem hmn⟩
    have hix : atD ((levL ts s (dropAt rs i)).map eO) r.1 = some (eS x) := by
      have e1 : ((r.1.toNat : Nat) : Int) = r.1 := by omega
      have e2 := atD_nat ((levL ts s (dropAt rs i)).map eO) r.1.toNat
      rw [e1] at e2
      rw [e2, hls, List.map_map, List.getElem?_map, hx]
      rfl
    have hnd : ndB ts s rs (r, i) = decide (x = (some r.2, some r.2)) := by
      unfold ndB
      simp only
      rw [hls, List.getElem?_map, hx]
      rfl
    have heq := eqv_eS x r.2
    have hly : D.lay 9 (eS x) = true := lay_eS 8 x
    have hl3 : ((pre ++ [i]).map fun (i : Nat) => D.int i) = (pre.map fun (i : Nat) => D.int i) ++ [.int (i : Nat)] := by simp
    have hto : eS x = .tup [eI x.1, eI x.2] := rfl
    have htu : O.tuple [eS x] = some (.v (eS x)) := rfl
    cases hb : decide (x = (some r.2, some r.2)) with
    | true =>
      obtain ⟨k4, k5, k6, k7, q⟩ := nd_loop hg s hr hl hlr hall hm ds as hs (fun p hp => hin p (by simp [hp])) (pre ++ [i]) (some (.val (.int (i : Nat)))) (some (.val (.lst es))) (some (.val (.int r.1))) (some (.val (.int r.2))) (.inr ⟨_, rfl⟩) (.inr ⟨_, rfl⟩) (.inr ⟨_, rfl⟩) (.inr ⟨_, rfl⟩) (by simp at hpl ⊢; omega)
      refine ⟨k4, k5, k6, k7, ?_⟩
      rw [hb] at hnd heq
      have e1 : ((r, i) :: as).filter (ndB ts s rs) = (r, i) :: as.filter (ndB ts s rs) := List.filter_cons_of_pos hnd
      have e2 : pre ++ (((r, i) :: as).filter (ndB ts s rs)).map (·.2) = (pre ++ [i]) ++ (as.filter (ndB ts s rs)).map (·.2) := by rw [e1]; simp
      rw [e2, ← q, loop_cons]
      rcases hre with rfl | rfl <;> rcases h4 with rfl | ⟨_, rfl⟩ <;> rcases h6 with rfl | ⟨_, rfl⟩ <;> rcases h7 with rfl | ⟨_, rfl⟩ <;> rcases h5 with rfl | ⟨_, rfl⟩ <;> simp [lc, hlv, hix, htu, heq, hly, hl2, -O.tuple]
    | false =>
      obtain ⟨k4, k5, k6, k7, q⟩ := nd_loop hg s hr hl hlr hall hm ds as hs (fun p hp => hin p (by simp [hp])) pre (some (.val (.int (i : Nat)))) (some (.val (.lst es))) (some (.val (.int r.1))) (some (.val (.int r.2))) (.inr ⟨_, rfl⟩) (.inr ⟨_, rfl⟩) (.inr ⟨_, rfl⟩) (.inr ⟨_, rfl⟩) (by simp at hpl ⊢; omega)
      refine ⟨k4, k5, k6, k7, ?_⟩
      rw [hb] at hnd heq
      have e1 : ((r, i) :: as).filter (ndB ts s rs) = as.filter (ndB ts s rs) := List.filter_cons_of_neg (by rw [hnd]; exact Bool.false_ne_true)
      rw [e1, ← q, loop_cons]
      rcases hre with rfl | rfl <;> rcases h4 with rfl | ⟨_, rfl⟩ <;> rcases h6 with rfl | ⟨_, rfl⟩ <;> rcases h7 with rfl | ⟨_, rfl⟩ <;> rcases h5 with rfl | ⟨_, rfl⟩ <;> simp [lc, hlv, hix, htu, heq, hly, hl2, -O.tuple]
theorem t_ndN {dg dr : D} {ts : List Tri} {rs : List Rd} (hg : IsQ IsT dg ts) (s : S2) (hr : IsQ IsR dr rs) (hl : ts.length < 900000) (h : (levL ts s rs).any (·.isNone) = true) : d_needless_readings [.val dg, .val (eS s), .val dr] = R .non [dg, eS s, dr] := by
  have h1 := t_levN hg s hr (by omega) h
  simp only [d_needless_readings, C.body, b_needless_readings]
  simp [h1]
theorem t_nd {dg dr : D} {ts : List Tri} {rs : List Rd} (hg : IsQ IsT dg ts) (s : S2) (hr : IsQ IsR dr rs) (hl : ts.length < 800000) (hlr : rs.length < 800000) (h : (levL ts s rs).any (·.isNone) = false)
    (hall : ∀ i, (levL ts s (dropAt rs i)).any (·.isNone) = false) (hm : ∀ r ∈ rs, 0 ≤ r.1 ∧ r.1 ≤ ts.length) : d_needless_readings [.val dg, .val (eS s), .val dr] = R (.tup ((ndT ts s rs).map fun (i : Nat) => D.int i)) [dg, eS s, dr] := by
  have h1 := t_lev hg s hr (by omega) h
  obtain ⟨ds, hd, h2⟩ := id hr
  obtain ⟨k4, k5, k6, k7, q⟩ := nd_loop hg s hr (by omega) (by omega) hall hm (enumD 0 ds) rs.zipIdx (is2_enumR 0 h2) (fun p hp => by
    obtain ⟨i, hi⟩ := List.getElem?_of_mem hp
    rw [List.getElem?_zipIdx] at hi
    cases e : rs[i]? with
    | none => rw [e] at hi; cases hi
    | some r => rw [e] at hi; cases hi; exact List.mem_of_getElem? e) [] none none none none (.inl rfl) (.inl rfl) (.inl rfl) (.inl rfl) (by simp; omega)
  simp only [List.map_nil, List.nil_append] at q
  simp only [d_needless_readings, C.body, b_needless_readings]
  rcases hd with rfl | rfl <;> simp [h1, ev_forS, q, ndT]
end RF.L
set_option maxRecDepth 100000
set_option maxHeartbeats 1000000
namespace RF.L
open PySem RF RF.C
theorem t_isnum (i : Int) : d_is_number [.val (.int i)] = R (.bl true) [.int i] := rfl
theorem t_isevent (e : Ev) : d_is_event [.val (eE e)] = R (.bl true) [eE e] := by
  rcases e with ⟨w, k⟩
  cases w <;> kernel_rfl
theorem bls_map {α : Type} (p : α → Bool) (l : List α) : blsOf (l.map fun a => D.bl (p a)) = some (l.map p) := by
  induction l with
  | nil => rfl
  | cons m ms ih => simp [ih]
theorem t_isrow (es : List Ev) (hl : es.length ≤ 1000000) : d_is_row [.val (eRow es)] = R (.bl true) [eRow es] := by
  have lc := lc_is (P := fun d (e : Ev) => d = eE e) (it := C.iter (C.var 0)) (g := C.gname 1) (t := C.tyes) (e := C.ucallM [] d_is_event (C.acons (C.var 1) C.anil)) (vs := [1]) (sl := [some (.val (eRow es)), none]) (sl1 := [some (.val (eRow es)), none]) (as := es) (fun _ => true) (fun _ => .bl true)
    (ds := es.map eE) (by simp [eRow]) (is2_map _ _) (by rw [List.length_map]; exact hl) (fun d e hd _ => by
      subst hd
      have h := t_isevent e
      exact ⟨[some (.val (eRow es)), some (.val (eE e))], by simp, rfl, rfl, fun _ => ⟨.v (.bl true), [some (.val (eRow es)), some (.val (eE e))], [some (.val (eRow es)), some (.val (eE e))], by simp [h], rfl, rfl⟩⟩)
  rw [filter_yes] at lc
  have hb := bls_map (fun _ : Ev => true) es
  simp only [d_is_row, C.body, b_is_row]
  unfold eRow at lc ⊢
  simp [lc, hb]
@[simp] theorem eqv_eW (w v : Wd) : D.eqv (eW w) (eW v) = decide (w = v) := by
  cases w <;> cases v <;> kernel_rfl
@[simp] theorem lay_eW (n : Nat) (w : Wd) : D.lay n (eW w) = true := by
  cases w <;> simp [eW] <;> cases n <;> simp
theorem is2_zip {P : D → Tri → Prop} : ∀ {ds : List D} {ts : List Tri} (es : List Ev), Is2 P ds ts → Is2 (fun d (p : Tri × Ev) => ∃ x, d = .tup [x, eE p.2] ∧ P x p.1) (zipD ds (es.map eE)) (ts.zip es)
  | [], [], _, _ => by simp [Is2]
  | [], _ :: _, _, h => h.elim
  | _ :: _, [], _, h => h.elim
  | d :: ds, t :: ts, [], _ => by simp [Is2]
  | d :: ds, t :: ts, e :: es, h => by
    simp only [List.map_cons, zipD, List.zip_cons_cons]
    exact ⟨⟨d, rfl, h.1⟩, is2_zip es h.2⟩
theorem t_fits {ds : List D} {ts : List Tri} (h : Is2 IsT ds ts) (es : List Ev) (hl : ts.length ≤ 1000000) : d_fits_guess [.val (.tup ds), .val (eRow es)] = R (.bl (fgT ts es)) [.tup ds, eRow es] := by
  have hlen := is2_len h
  have lc := lc_is (P := fun d (p : Tri × Ev) => ∃ x, d = .tup [x, eE p.2] ∧ IsT x p.1) (it := C.iterA W.zip (C.acons (C.var 0) (C.acons (C.var 1) C.anil))) (g := C.gtup 2 (C.gcons (C.gtup 3 (C.gcons (C.gname 2) (C.gcons (C.gname 3) (C.gcons (C.gname 4) C.gnil)))) (C.gcons (C.gtup 2 (C.gcons (C.gname 5) (C.gcons (C.gname 6) C.gnil))) C.gnil))) (t := C.tyes) (e := C.vand (C.bin O.eq (C.var 2) (C.var 5)) (C.chain O.le O.le (C.var 3) (C.var 6) (C.var 4))) (vs := [2, 3, 4, 5, 6])
    (sl := [some (.val (.tup ds)), some (.val (.tup (es.map eE))), none, none, none, none, none]) (sl1 := [some (.val (.tup ds)), some (.val (.tup (es.map eE))), none, none, none, none, none]) (as := ts.zip es) (fun _ => true) (fun p => .bl (fitB p))
    (ds := zipD ds (es.map eE)) (by simp) (is2_zip es h) (by rw [zipD_len]; omega) (fun d p ⟨x, hd, hx⟩ _ => by
      subst hd
      rcases p with ⟨⟨w, l, u⟩, ⟨v, k⟩⟩
      refine ⟨[some (.val (.tup ds)), some (.val (.tup (es.map eE))), some (.val (eW w)), some (.val (.int l)), some (.val (.int u)), some (.val (eW v)), some (.val (.int k))], by rcases hx with rfl | rfl <;> simp [eE], rfl, rfl, fun _ => ⟨.v (.bl (fitB (⟨w, l, u⟩, (v, k)))), [some (.val (.tup ds)), some (.val (.tup (es.map eE))), some (.val (eW w)), some (.val (.int l)), some (.val (.int u)), some (.val (eW v)), some (.val (.int k))], [some (.val (.tup ds)), some (.val (.tup (es.map eE))), some (.val (eW w)), some (.val (.int l)), some (.val (.int u)), some (.val (eW v)), some (.val (.int k))], ?_, rfl, rfl⟩⟩
      by_cases h1 : w = v
      · by_cases h2 : l ≤ k <;> simp [fitB, h1, h2]
      · simp [fitB, h1])
  rw [filter_yes] at lc
  have hb := bls_map fitB (ts.zip es)
  simp only [d_fits_guess, C.body, b_fits_guess]
  unfold eRow
  by_cases hz : ts.length = es.length
  · simp [lc, hb, hlen, hz, fgT]
  · have hz2 : ¬ ((ts.length : Int) = (es.length : Int)) := by omega
    simp [lc, hb, hlen, hz, hz2, fgT]
end RF.L
set_option maxRecDepth 100000
set_option maxHeartbeats 1000000
namespace RF.L
open PySem RF RF.C
/-! ### what the package tells -/
theorem nb_none {ts : List Tri} {s : S2} {rs : List Rd} (ht : okTs ts) (hs : okS s = true) : (comT (onE ts s rs) (bkE ts rs)).isNone = true ↔ NoFit ts s rs := by
  obtain ⟨o, h1, h2, h3⟩ := lev_at (rs := rs) ht hs (Nat.le_refl ts.length)
  have e : comT (onE ts s rs) (bkE ts rs) = o := by
    unfold levL at h1
    rw [List.getElem?_map] at h1
    cases q : ((waysOn ts s rs).zip (waysBack ts rs))[ts.length]? with
    | none => rw [q] at h1; cases h1
    | some p =>
      rw [q] at h1
      cases h1
      obtain ⟨q1, q2⟩ := List.getElem?_zip_eq_some.mp q
      have l1 : (waysOn ts s rs).length = ts.length + 1 := onT_len rs ts 0 _
      have l2 : (waysBack ts rs).length = ts.length + 1 := bkT_len rs ts 0
      unfold onE bkE
      rw [List.getLast?_eq_getElem?, List.getLast?_eq_getElem?, l1, l2, Nat.add_sub_cancel, q1, q2]
      rfl
  rw [e]
  constructor
  · intro h x es f
    obtain ⟨y, hy⟩ := lev_someE x es ts.length (by rw [fit_len f.2]; exact Nat.le_refl _)
    have := (h3 y).mpr ⟨x, es, f, hy⟩
    cases o with
    | none => simp at this
    | some z => cases h
  · intro h
    cases o with
    | none => rfl
    | some z =>
      obtain ⟨x, es, f, _⟩ := (h3 (someT z)).mp (goodO_ex h2 rfl)
      exact (h x es f).elim
def eN (l : List Nat) : List D := l.map fun (i : Nat) => D.int i
structure ToldN (dg dr : D) (ts : List Tri) (s : S2) (rs : List Rd) : Prop where
  no : NoFit ts s rs
  lev : d_levels_by [.val dg, .val (eS s), .val dr] = R .non [dg, eS s, dr]
  num : d_numbers_by [.val dg, .val (eS s), .val dr] = R .non [dg, eS s, dr]
  set : d_settled [.val dg, .val (eS s), .val dr] = R .non [dg, eS s, dr]
  go : d_going [.val dg, .val (eS s), .val dr] = R .non [dg, eS s, dr]
  nd : d_needless_readings [.val dg, .val (eS s), .val dr] = R .non [dg, eS s, dr]
structure ToldY (dg dr : D) (ts : List Tri) (s : S2) (rs : List Rd) (ls ns : List S2) (x : Int) (es : List Ev) : Prop where
  lv : Lv ts s rs ls ns
  fit : Fit ts s rs x es
  lev : d_levels_by [.val dg, .val (eS s), .val dr] = Rn (ls.map eS) [dg, eS s, dr]
  num : d_numbers_by [.val dg, .val (eS s), .val dr] = Rn (ns.map eS) [dg, eS s, dr]
  set : d_settled [.val dg, .val (eS s), .val dr] = R (.tup (eN (settledT ls))) [dg, eS s, dr]
  go : d_going [.val dg, .val (eS s), .val dr] = R (.tup [.int x, eRow es]) [dg, eS s, dr]
  nd : d_needless_readings [.val dg, .val (eS s), .val dr] = R (.tup (eN (ndT ts s rs))) [dg, eS s, dr]
theorem toldN {dg dr : D} {ts : List Tri} {s : S2} {rs : List Rd} (hg : IsQ IsT dg ts) (hr : IsQ IsR dr rs) (ht : okTs ts) (hs : okS s = true) (hl : ts.length < 1000) (h : NoFit ts s rs) : ToldN dg dr ts s rs := by
  have h1 := (any_none_iff (rs := rs) ht hs).mpr h
  have h2 := (nb_none (rs := rs) ht hs).mpr h
  exact ⟨h, t_levN hg s hr (by omega) h1, t_nbN hg s hr (by omega) (by simpa using h2), t_setN hg s hr (by omega) h1, t_goN hg s hr (by omega) h1, t_ndN hg s hr (by omega) h1⟩
/-- what goes on depends on the guess alone -/
theorem toldY {ts : List Tri} {s : S2} {rs : List Rd} (ht : okTs ts) (hs : okS s = true) (ok : okRs ts.length rs) (hl : ts.length < 1000) (hlr : rs.length < 60) (h : ∃ x es, Fit ts s rs x es) :
    ∃ ls ns x es, ∀ (dg dr : D), IsQ IsT dg ts → IsQ IsR dr rs → ToldY dg dr ts s rs ls ns x es := by
  obtain ⟨ls, ns, h1, h2, h3⟩ := lv_ex (rs := rs) ht hs h
  have h0 := (any_none_not (rs := rs) ht hs).mpr h
  obtain ⟨l0, ls0, e0⟩ : ∃ l0 ls0, ls = l0 :: ls0 := by
    cases ls with
    | nil => have := h3.ll; simp at this
    | cons l0 ls0 => exact ⟨l0, ls0, rfl⟩
  obtain ⟨es, g1, g2⟩ := go_ok (rs := rs) ht hs (l0 := l0) (ls := ls0) (by rw [h1, e0])
  refine ⟨ls, ns, someT l0, es, fun dg dr hg hr => ⟨h3, g2, ?_, ?_, ?_, ?_, ?_⟩⟩
  · have := t_lev hg s hr (by omega) h0
    rw [h1, List.map_map] at this
    exact this
  · have := t_nb hg s hr (by omega) (by
      cases q : (comT (onE ts s rs) (bkE ts rs)).isNone with
      | false => rfl
      | true =>
        obtain ⟨x, es, f⟩ := h
        exact ((nb_none ht hs).mp q x es f).elim) (fun p hp => by
      have : numAt ts s rs p ∈ ts.zipIdx.map (numAt ts s rs) := List.mem_map.mpr ⟨p, hp, rfl⟩
      rw [h2, List.mem_map] at this
      obtain ⟨z, _, e⟩ := this
      rw [← e]
      rfl)
    rw [h2, List.map_map] at this
    exact this
  · exact t_set hg s hr (by omega) h1
  · exact t_go hg s hr (by omega) (by rw [h1, e0]) g1
  · refine t_nd hg s hr (by omega) (by omega) h0 (fun i => ?_) ok
    obtain ⟨x, es, f⟩ := h
    exact (any_none_not ht hs).mpr ⟨x, es, fit_mono ok erase_sub f⟩
theorem sortI_mem {i : Int} : ∀ {ns : List Int}, i ∈ sortI ns ↔ i ∈ ns := by
  have ins : ∀ (j : Int) (ns : List Int), i ∈ insI j ns ↔ i = j ∨ i ∈ ns := by
    intro j ns
    induction ns with
    | nil => simp [insI]
    | cons k ns ih =>
      unfold insI
      split
      · simp
      · simp [ih]
        constructor
        · rintro (h | h | h) <;> simp [h]
        · rintro (h | h | h) <;> simp [h]
  intro ns
  induction ns with
  | nil => simp [sortI]
  | cons j ns ih => rw [sortI, ins, ih, List.mem_cons]
theorem sortI_sorted : ∀ (ns : List Int), (sortI ns).Pairwise (· ≤ ·) := by
  have ins : ∀ (j : Int) (ns : List Int), ns.Pairwise (· ≤ ·) → (insI j ns).Pairwise (· ≤ ·) := by
    intro j ns
    induction ns with
    | nil => intro _; simp [insI]
    | cons k ns ih =>
      intro h
      unfold insI
      split
      · rename_i q
        refine List.pairwise_cons.mpr ⟨fun a ha => ?_, h⟩
        rcases List.mem_cons.mp ha with rfl | ha
        · exact q
        · exact Int.le_trans q ((List.pairwise_cons.mp h).1 a ha)
      · rename_i q
        have h1 := List.pairwise_cons.mp h
        refine List.pairwise_cons.mpr ⟨fun a ha => ?_, ih h1.2⟩
        have : a = j ∨ a ∈ ns := by
          have m : ∀ (ns : List Int), a ∈ insI j ns → a = j ∨ a ∈ ns := by
            intro ns
            induction ns with
            | nil => intro h; left; simpa [insI] using h
            | cons k ns ih =>
              intro h
              unfold insI at h
              split at h
              · exact List.mem_cons.mp h
              · rcases List.mem_cons.mp h with h | h
                · exact .inr (by simp [h])
                · rcases ih h with h | h
                  · exact .inl h
                  · exact .inr (by simp [h])
          exact m ns ha
        rcases this with rfl | h2
        · omega
        · exact h1.1 a h2
  intro ns
  induction ns with
  | nil => exact .nil
  | cons j ns ih => exact ins j _ ih
theorem fw_ok {dg dr : D} {ts : List Tri} {s : S2} {rs : List Rd} (hg : IsQ IsT dg ts) (hr : IsQ IsR dr rs) (ht : okTs ts) (hs : okS s = true) (ok : okRs ts.length rs) (hl : ts.length < 1000) (hlr : rs.length < 60) :
    ∃ o, FW ts s rs o ∧ d_first_wrong [.val dg, .val (eS s), .val dr] = R (eI o) [dg, eS s, dr] := by
  refine ⟨fwT ts s rs, ?_, t_fw hg s hr (by omega) (by omega)⟩
  refine fw_find ht hs ok _ (sortI_sorted _) fun i => ?_
  rw [sortI_mem, mem_dedup]
/-! ### goes_with -/
def inB (s : S2) (x : Int) : Bool := (match s.1 with | none => true | some a => decide (a ≤ x)) && (match s.2 with | none => true | some b => decide (x ≤ b))
theorem inB_iff (s : S2) (x : Int) : inB s x = true ↔ inS s x := by
  rcases s with ⟨_ | a, _ | b⟩ <;> simp [inB]
theorem t_isin (s : S2) (x : Int) : d_is_in [.val (eS s), .val (.int x)] = R (.bl (inB s x)) [eS s, .int x] := by
  rcases s with ⟨_ | a, _ | b⟩
  · simp [d_is_in, b_is_in, eS, inB]
  · simp [d_is_in, b_is_in, eS, inB]
  · by_cases h : a ≤ x <;> simp [d_is_in, b_is_in, eS, inB, h]
  · by_cases h : a ≤ x <;> simp [d_is_in, b_is_in, eS, inB, h]
def gwB (ts : List Tri) (s : S2) (rs : List Rd) (x : Int) (es : List Ev) : Bool := inB s x && (fgT ts es && rdB x es rs)
theorem gw_iff {ts : List Tri} {s : S2} {rs : List Rd} (ok : okRs ts.length rs) (x : Int) (es : List Ev) : gwB ts s rs x es = true ↔ Fit ts s rs x es := by
  rw [fit_iff ok]
  unfold gwB
  rw [Bool.and_eq_true, Bool.and_eq_true, inB_iff, rdB, List.all_eq_true]
  simp [RdOk]
def eP (p : Int × List Ev) : D := .tup [.int p.1, eRow p.2]
theorem lev_atD {x : Int} {es : List Ev} {i : Int} (h0 : 0 ≤ i) (h1 : i ≤ es.length) : ∃ y, (levT x es)[i.toNat]? = some y ∧ atD ((levT x es).map D.int) i = some (.int y) := by
  obtain ⟨y, hy⟩ := lev_someE x es i.toNat (by omega)
  refine ⟨y, hy, ?_⟩
  have := atD_nat ((levT x es).map D.int) i.toNat
  rw [show ((i.toNat : Nat) : Int) = i by omega] at this
  rw [this, List.getElem?_map, hy]
  rfl
theorem t_gw {ds dr : List D} {ts : List Tri} {rs : List Rd} (h : Is2 IsT ds ts) (hr : Is2 IsR dr rs) (s : S2) (x : Int) (es : List Ev) (ok : okRs ts.length rs) (hl : ts.length < 1000) (hle : es.length < 1000) (hlr : rs.length < 60) :
    d_goes_with [.val (.tup ds), .val (eS s), .val (.tup dr), .val (eP (x, es))] = R (.bl (gwB ts s rs x es)) [.tup ds, eS s, .tup dr, eP (x, es)] := by
  have h1 := t_isnum x
  have h2 := t_isrow es (by omega)
  have h3 := t_isin s x
  have h4 := t_fits h es (by omega)
  have h5 := t_levelsA es x (by omega)
  by_cases b1 : inB s x = true
  · rw [b1] at h3
    by_cases b2 : fgT ts es = true
    · rw [b2] at h4
      have hle2 := fg_len b2
      have lc := lc_is (P := IsR) (it := C.iter (C.var 2)) (g := C.gtup 2 (C.gcons (C.gname 5) (C.gcons (C.gname 6) C.gnil))) (t := C.tyes) (e := C.bin O.eq (C.bin O.ix (C.var 4) (C.var 5)) (C.var 6)) (vs := [5, 6])
        (sl := [some (.val (.tup ds)), some (.val (eS s)), some (.val (.tup dr)), some (.val (eP (x, es))), some (.own (.lst ((levT x es).map D.int))), none, none]) (sl1 := [some (.val (.tup ds)), some (.val (eS s)), some (.val (.tup dr)), some (.val (eP (x, es))), some (.own (.lst ((levT x es).map D.int))), none, none]) (as := rs) (fun _ => true) (fun r => .bl (decide ((levT x es)[r.1.toNat]? = some r.2)))
        (ds := dr) (by simp) hr (by rw [is2_len hr]; omega) (fun d r hd hm => by
          obtain ⟨y, hy, hx⟩ := lev_atD (x := x) (es := es) (ok r hm).1 (by rw [hle2]; exact (ok r hm).2)
          refine ⟨[some (.val (.tup ds)), some (.val (eS s)), some (.val (.tup dr)), some (.val (eP (x, es))), some (.own (.lst ((levT x es).map D.int))), some (.val (.int r.1)), some (.val (.int r.2))], by rcases hd with rfl | rfl <;> simp, rfl, rfl, fun _ => ⟨.v (.bl (decide ((levT x es)[r.1.toNat]? = some r.2))), [some (.val (.tup ds)), some (.val (eS s)), some (.val (.tup dr)), some (.val (eP (x, es))), some (.own (.lst ((levT x es).map D.int))), some (.val (.int r.1)), some (.val (.int r.2))], [some (.val (.tup ds)), some (.val (eS s)), some (.val (.tup dr)), some (.val (eP (x, es))), some (.own (.lst ((levT x es).map D.int))), some (.val (.int r.1)), some (.val (.int r.2))], ?_, rfl, rfl⟩⟩
          by_cases q : y = r.2 <;> simp [hx, hy, q])
      rw [filter_yes] at lc
      have hb := bls_map (fun (r : Rd) => decide ((levT x es)[r.1.toNat]? = some r.2)) rs
      have e : gwB ts s rs x es = rdB x es rs := by simp [gwB, b1, b2]
      rw [e]
      simp only [d_goes_with, C.body, b_goes_with]
      simp [eP] at lc ⊢
      simp [h1, h2, h3, h4, h5, lc, hb, rdB, List.all_map]
    · have b2 : fgT ts es = false := by simpa using b2
      rw [b2] at h4
      have e : gwB ts s rs x es = false := by simp [gwB, b2]
      rw [e]
      simp [d_goes_with, b_goes_with, eP, h1, h2, h3, h4]
  · have b1 : inB s x = false := by simpa using b1
    rw [b1] at h3
    have e : gwB ts s rs x es = false := by simp [gwB, b1]
    rw [e]
    simp [d_goes_with, b_goes_with, eP, h1, h2, h3]
theorem t_gwL (a b c : D) (l : List D) : d_goes_with [.val a, .val b, .val c, .val (.lst l)] = R (.bl false) [a, b, c, .lst l] := by
  simp [d_goes_with, b_goes_with]
end RF.L
set_option maxRecDepth 100000
set_option maxHeartbeats 2000000
namespace RF.L
open PySem RF RF.C
/-! ### draws -/
def Urn (n : Nat) (u : List D) : Prop := ∃ a b c : Int, u = [.int a, .int b, .int c] ∧ 0 ≤ c ∧ c ≤ n
theorem Urn.up {n m : Nat} {u : List D} (h : Urn n u) (e : n ≤ m) : Urn m u := by
  obtain ⟨a, b, c, h1, h2, h3⟩ := h
  exact ⟨a, b, c, h1, h2, by omega⟩
theorem t_take {n : Nat} {u : List D} (hu : Urn n u) (hn : n < 1000000) {low : Int} (h0 : 0 < low) (h1 : low < 1073741824) :
    ∃ v u', 0 ≤ v ∧ v < low ∧ Urn (n + 1) u' ∧ d__law_take [.bref (.lst u), .val (.int low)] = .ok (.v (.int v)) [some (.bref (.lst u')), some (.val (.int low))] := by
  obtain ⟨a, b, c, rfl, hc, hc2⟩ := hu
  by_cases ha : 0 < a
  · refine ⟨a % low, [.int (a / low), .int b, .int c], Int.emod_nonneg _ (by omega), Int.emod_lt_of_pos _ h0, ⟨_, _, _, rfl, hc, by omega⟩, ?_⟩
    simp [d__law_take, b__law_take, ha, h0, h1, ixD]
  · let once := (b + 48271 * (c + 1)) * (39373 + (c + 1)) % 2147483647
    let far := once % 40009 + 7
    let twice := (once + (c + 1) + b / 1000003) * far % 2147483629
    have hf : -(18446744073709551616) < far ∧ far < 18446744073709551616 := by
      have := Int.emod_nonneg once (show (40009 : Int) ≠ 0 by omega)
      have := Int.emod_lt_of_pos once (show (0 : Int) < 40009 by omega)
      omega
    refine ⟨((twice * 48271 + once) % 2147483587 / 64) % low, [.int a, .int b, .int (c + 1)], Int.emod_nonneg _ (by omega), Int.emod_lt_of_pos _ h0, ⟨_, _, _, rfl, by omega, by omega⟩, ?_⟩
    have hc3 : -(18446744073709551616) < 39373 + (c + 1) ∧ 39373 + (c + 1) < 18446744073709551616 := by omega
    have ha2 : ¬ a > 0 := ha
    simp only [far, once] at hf
    simp [d__law_take, b__law_take, ha, h0, h1, ixD, hc3, hf, once, far, twice]
theorem t_number {n : Nat} {u : List D} (hu : Urn n u) (hn : n < 1000000) {far : Int} (h0 : 0 ≤ far) (h1 : far < 1000) :
    ∃ v u', -far ≤ v ∧ v ≤ far ∧ Urn (n + 1) u' ∧ d__law_number [.bref (.lst u), .val (.int far)] = .ok (.v (.int v)) [some (.bref (.lst u')), some (.val (.int far))] := by
  obtain ⟨v, u', e1, e2, e3, e4⟩ := t_take hu hn (low := 2 * far + 1) (by omega) (by omega)
  refine ⟨v - far, u', by omega, by omega, e3, ?_⟩
  simp [d__law_number, b__law_number, e4]
theorem t_of {n : Nat} {u : List D} (hu : Urn n u) (hn : n < 1000000) {l : List D} (h0 : l ≠ []) (h1 : l.length < 1000) :
    ∃ d u', d ∈ l ∧ Urn (n + 1) u' ∧ d__law_of [.bref (.lst u), .val (.lst l)] = .ok (.v d) [some (.bref (.lst u')), some (.val (.lst l))] := by
  have hp : 0 < l.length := List.length_pos_iff.mpr h0
  obtain ⟨v, u', e1, e2, e3, e4⟩ := t_take hu hn (low := (l.length : Int)) (by omega) (by omega)
  obtain ⟨d, hd⟩ : ∃ d, l[v.toNat]? = some d := ⟨_, List.getElem?_eq_getElem (by omega)⟩
  have ha : atD l v = some d := by
    have := atD_nat l v.toNat
    rw [show ((v.toNat : Nat) : Int) = v by omega] at this
    rw [this, hd]
  refine ⟨d, u', List.mem_of_getElem? hd, e3, ?_⟩
  simp [d__law_of, b__law_of, e4, ha]
/-! ### _law_same says yes of the same -/
mutual
def sm : Nat → D → Bool
  | _, .non => true
  | _, .bl _ => true
  | _, .int _ => true
  | _, .str s => PyData.strOk s
  | n + 1, .lst ds => decide (ds.length ≤ 1000000) && smL n ds
  | n + 1, .tup ds => decide (ds.length ≤ 1000000) && smL n ds
  | _, _ => false
def smL : Nat → List D → Bool
  | _, [] => true
  | n, d :: ds => sm n d && smL n ds
end
theorem smL_mem {n : Nat} : ∀ {ds : List D}, smL n ds = true → ∀ d ∈ ds, sm n d = true
  | [], _, _, h => by cases h
  | d :: ds, e, x, h => by
    unfold smL at e
    rw [Bool.and_eq_true] at e
    rcases List.mem_cons.mp h with rfl | h
    · exact e.1
    · exact smL_mem e.2 x h
theorem zipD_self : ∀ l : List D, zipD l l = l.map fun d => .tup [d, d]
  | [] => rfl
  | d :: l => by simp [zipD_self l]
theorem bls_true {α : Type} (l : List α) : blsOf (l.map fun _ => D.bl true) = some (l.map fun _ => true) := by
  induction l with
  | nil => rfl
  | cons m ms ih => simp; exact ih
@[simp] theorem str_beq_self (s : Str) : (s == s) = true := by simp
theorem all_map_true {α : Type} (l : List α) : ((l.map fun _ => true).all id) = true := by
  induction l with
  | nil => rfl
  | cons a l ih => simp
theorem t_same : ∀ (n : Nat) (d : D), sm n d = true → d__law_same (n + 1) [.val d, .val d] = R (.bl true) [d, d]
  | n, .non, _ => by show C.body 2 4 (b__law_same (d__law_same n)) _ = _; simp [b__law_same]
  | n, .bl b, _ => by show C.body 2 4 (b__law_same (d__law_same n)) _ = _; cases b <;> simp [b__law_same]
  | n, .int i, _ => by show C.body 2 4 (b__law_same (d__law_same n)) _ = _; simp [b__law_same]
  | n, .str s, h => by
    have h : PyData.strOk s = true := by simpa [sm] using h
    show C.body 2 4 (b__law_same (d__law_same n)) _ = _
    simp [b__law_same, h]
  | 0, .tup ds, h => by cases h
  | 0, .lst ds, h => by cases h
  | _, .obj _ _, h => by simp [sm] at h
  | _, .kls _, h => by simp [sm] at h
  | n + 1, .lst ds, h => by
    unfold sm at h
    rw [Bool.and_eq_true, decide_eq_true_eq] at h
    have hm := smL_mem h.2
    have lc := lc_map (it := C.iterA W.zip (C.acons (C.var 0) (C.acons (C.var 1) C.anil))) (g := C.gtup 2 (C.gcons (C.gname 2) (C.gcons (C.gname 3) C.gnil))) (e := C.ucallM [] (d__law_same (n + 1)) (C.acons (C.var 2) (C.acons (C.var 3) C.anil))) (vs := [2, 3])
      (sl := [some (.val (.lst ds)), some (.val (.lst ds)), none, none]) (sl1 := [some (.val (.lst ds)), some (.val (.lst ds)), none, none]) (ds := ds.map fun d => .tup [d, d]) (fun _ => .bl true) (by simp [zipD_self]) (by rw [List.length_map]; exact h.1) (fun x hx => by
        obtain ⟨d, hd, rfl⟩ := List.mem_map.mp hx
        have hs := t_same n d (hm d hd)
        exact ⟨[some (.val (.lst ds)), some (.val (.lst ds)), some (.val d), some (.val d)], .v (.bl true), [some (.val (.lst ds)), some (.val (.lst ds)), some (.val d), some (.val d)], [some (.val (.lst ds)), some (.val (.lst ds)), some (.val d), some (.val d)], by simp, rfl, by simp [hs], rfl, rfl⟩)
    rw [List.map_map] at lc
    have hb := bls_true ds
    have ha := all_map_true ds
    have e : ((fun _ => D.bl true) ∘ fun d : D => D.tup [d, d]) = fun _ => D.bl true := rfl
    rw [e] at lc
    show C.body 2 4 (b__law_same (d__law_same (n + 1))) _ = _
    simp [b__law_same, lc, hb, ha, -List.map_const_fun, -List.all_map]
  | n + 1, .tup ds, h => by
    unfold sm at h
    rw [Bool.and_eq_true, decide_eq_true_eq] at h
    have hm := smL_mem h.2
    have lc := lc_map (it := C.iterA W.zip (C.acons (C.var 0) (C.acons (C.var 1) C.anil))) (g := C.gtup 2 (C.gcons (C.gname 2) (C.gcons (C.gname 3) C.gnil))) (e := C.ucallM [] (d__law_same (n + 1)) (C.acons (C.var 2) (C.acons (C.var 3) C.anil))) (vs := [2, 3])
      (sl := [some (.val (.tup ds)), some (.val (.tup ds)), none, none]) (sl1 := [some (.val (.tup ds)), some (.val (.tup ds)), none, none]) (ds := ds.map fun d => .tup [d, d]) (fun _ => .bl true) (by simp [zipD_self]) (by rw [List.length_map]; exact h.1) (fun x hx => by
        obtain ⟨d, hd, rfl⟩ := List.mem_map.mp hx
        have hs := t_same n d (hm d hd)
        exact ⟨[some (.val (.tup ds)), some (.val (.tup ds)), some (.val d), some (.val d)], .v (.bl true), [some (.val (.tup ds)), some (.val (.tup ds)), some (.val d), some (.val d)], [some (.val (.tup ds)), some (.val (.tup ds)), some (.val d), some (.val d)], by simp, rfl, by simp [hs], rfl, rfl⟩)
    rw [List.map_map] at lc
    have hb := bls_true ds
    have ha := all_map_true ds
    have e : ((fun _ => D.bl true) ∘ fun d : D => D.tup [d, d]) = fun _ => D.bl true := rfl
    rw [e] at lc
    show C.body 2 4 (b__law_same (d__law_same (n + 1))) _ = _
    simp [b__law_same, lc, hb, ha, -List.map_const_fun, -List.all_map]
/-! ### both -/
def bothD (l m : List D) : List D := l.flatMap fun a => m.map fun b => .tup [a, b]
theorem both_loop (dl : D) (m : List D) (hm : m.length ≤ 1000000) : ∀ (l : List D) (acc : List D) (j : Option SV), J j → acc.length + l.length * m.length ≤ 16777216 → ∃ k, J k ∧
    C.loop (C.gname 3) (C.set 2 (C.bin O.add (C.var 2) (C.lc (C.iter (C.var 1)) (C.gname 4) C.tyes (C.tup (C.acons (C.var 3) (C.acons (C.var 4) C.anil))) [4]))) l
      [some (.val dl), some (.val (.lst m)), some (.own (.lst acc)), j, none] = .nx [some (.val dl), some (.val (.lst m)), some (.own (.lst (acc ++ bothD l m))), k, none]
  | [], acc, j, h, _ => ⟨j, h, by simp [bothD]⟩
  | a :: l, acc, j, h, hl => by
    have hl2 : acc.length + (m.length + l.length * m.length) ≤ 16777216 := by
      rw [List.length_cons, Nat.add_mul, Nat.one_mul] at hl; omega
    obtain ⟨k, hk, q⟩ := both_loop dl m hm l (acc ++ m.map fun b => .tup [a, b]) (some (.val a)) (.inr ⟨_, rfl⟩) (by rw [List.length_append, List.length_map]; omega)
    refine ⟨k, hk, ?_⟩
    have e : acc ++ bothD (a :: l) m = (acc ++ m.map fun b => .tup [a, b]) ++ bothD l m := by simp [bothD]
    rw [e, ← q, loop_cons]
    have lc := lc_map (it := C.iter (C.var 1)) (g := C.gname 4) (e := C.tup (C.acons (C.var 3) (C.acons (C.var 4) C.anil))) (vs := [4]) (sl := [some (.val dl), some (.val (.lst m)), some (.own (.lst acc)), some (.val a), none]) (sl1 := [some (.val dl), some (.val (.lst m)), some (.own (.lst acc)), some (.val a), none]) (ds := m) (fun b => .tup [a, b]) (by simp) hm (fun b _ =>
      ⟨[some (.val dl), some (.val (.lst m)), some (.own (.lst acc)), some (.val a), some (.val b)], .v (.tup [a, b]), [some (.val dl), some (.val (.lst m)), some (.own (.lst acc)), some (.val a), some (.val b)], [some (.val dl), some (.val (.lst m)), some (.own (.lst acc)), some (.val a), some (.val b)], by simp, rfl, by simp, rfl, rfl⟩)
    have hz : acc.length + m.length ≤ 16777216 := by omega
    rcases h with rfl | ⟨_, rfl⟩ <;> simp [lc, hz]
theorem t_both (l m : List D) (hm : m.length ≤ 1000000) (hl : l.length * m.length ≤ 16777216) : d__law_both [.val (.lst l), .val (.lst m)] = Rn (bothD l m) [.lst l, .lst m] := by
  obtain ⟨k, _, q⟩ := both_loop (.lst l) m hm l [] none (.inl rfl) (by simpa using hl)
  rw [List.nil_append] at q
  simp [d__law_both, b__law_both, ev_forS, q]
theorem bothD_map {α β : Type} (f : α → D) (g : β → D) (l : List α) (m : List β) : bothD (l.map f) (m.map g) = (bothT l m).map fun p => .tup [f p.1, g p.2] := by
  simp only [bothD, bothT, List.flatMap_map, List.map_flatMap, List.map_map]
  rfl
theorem rangeD_map (lo hi : Int) : rangeD lo (hi + 1 - lo).toNat = (rngT lo hi).map D.int := by
  simp [rangeD, rngT]
end RF.L
set_option maxRecDepth 100000
set_option maxHeartbeats 2000000
namespace RF.L
open PySem RF RF.C
/-! ### _law_pairs -/
structure SmT (ts : List Tri) : Prop where
  len : ts.length ≤ 4
  ok : ∀ t ∈ ts, t.l ≤ t.h ∧ t.h ≤ t.l + 2 ∧ -6 ≤ t.l ∧ t.l ≤ 6
theorem SmT.okTs {ts : List Tri} (h : SmT ts) : okTs ts := fun t ht => (h.ok t ht).1
theorem rng_len (lo hi : Int) : (rngT lo hi).length = (hi + 1 - lo).toNat := by simp [rngT]
theorem both_len {α β : Type} (l : List α) (m : List β) : (bothT l m).length = l.length * m.length := by
  induction l with
  | nil => simp [bothT]
  | cons a l ih =>
    have e : bothT (a :: l) m = (m.map fun b => (a, b)) ++ bothT l m := by simp [bothT]
    rw [e, List.length_append, ih, List.length_map, List.length_cons, Nat.add_mul, Nat.one_mul, Nat.add_comm]
theorem row_len (rows : List (List Ev)) (t : Tri) : (rowStep rows t).length = rows.length * (t.h + 1 - t.l).toNat := by
  unfold rowStep
  rw [List.length_map, both_len, rng_len]
theorem rows_loop (dg ds dr : D) : ∀ (ts : List Tri), (∀ t ∈ ts, t.l ≤ t.h ∧ t.h ≤ t.l + 2 ∧ -6 ≤ t.l ∧ t.l ≤ 6) → ∀ (rows : List (List Ev)) (j5 j6 j7 : Option SV), J j5 → J j6 → J j7 → rows.length * 3 ^ ts.length ≤ 1000 → (∀ r ∈ rows, r.length + ts.length ≤ 4) →
    ∃ k5 k6 k7, J k5 ∧ J k6 ∧ J k7 ∧ C.loop (C.gtup 3 (C.gcons (C.gname 5) (C.gcons (C.gname 6) (C.gcons (C.gname 7) C.gnil)))) (C.set 3 (C.lc (C.iter (C.ucallM [] d__law_both (C.acons (C.var 3) (C.acons (C.listI (C.iterA W.range2 (C.acons (C.var 6) (C.acons (C.bin O.add (C.var 7) (C.const (.int (1)))) C.anil)))) C.anil)))) (C.gtup 2 (C.gcons (C.gname 11) (C.gcons (C.gname 12) C.gnil))) C.tyes (C.bin O.add (C.var 11) (C.tup (C.acons (C.tup (C.acons (C.var 5) (C.acons (C.var 12) C.anil))) C.anil))) [11, 12])) (ts.map eT)
      [some (.val dg), some (.val ds), some (.val dr), some (.own (.lst (rows.map eRow))), none, j5, j6, j7, none, none, none, none, none, none, none] = .nx [some (.val dg), some (.val ds), some (.val dr), some (.own (.lst ((ts.foldl rowStep rows).map eRow))), none, k5, k6, k7, none, none, none, none, none, none, none] ∧ (ts.foldl rowStep rows).length ≤ 1000
  | [], _, rows, j5, j6, j7, h5, h6, h7, hl, _ => ⟨j5, j6, j7, h5, h6, h7, rfl, by simpa using hl⟩
  | t :: ts, hok, rows, j5, j6, j7, h5, h6, h7, hl, hrl => by
    have ht := hok t (by simp)
    have hn : (t.h + 1 - t.l).toNat ≤ 3 := by omega
    have hrows : rows.length ≤ 1000 := by
      have : 1 ≤ 3 ^ (t :: ts).length := Nat.one_le_pow _ _ (by omega)
      have := Nat.le_mul_of_pos_right rows.length (show 0 < 3 ^ (t :: ts).length by omega)
      omega
    have hb : rows.length * (t.h + 1 - t.l).toNat ≤ 3000 := Nat.le_trans (Nat.mul_le_mul hrows hn) (by omega)
    obtain ⟨k5, k6, k7, r5, r6, r7, q, q2⟩ := rows_loop dg ds dr ts (fun t ht => hok t (by simp [ht])) (rowStep rows t) (some (.val (eW t.w))) (some (.val (.int t.l))) (some (.val (.int t.h))) (.inr ⟨_, rfl⟩) (.inr ⟨_, rfl⟩) (.inr ⟨_, rfl⟩) (by
      rw [row_len]
      refine Nat.le_trans ?_ hl
      rw [List.length_cons, Nat.pow_succ, Nat.mul_assoc, Nat.mul_comm (3 ^ ts.length) 3]
      exact Nat.mul_le_mul_left _ (Nat.mul_le_mul_right _ hn)) (fun r hr => by
      obtain ⟨p, hp, rfl⟩ := List.mem_map.mp hr
      have := hrl p.1 (mem_both.mp hp).1
      simp at this ⊢
      omega)
    refine ⟨k5, k6, k7, r5, r6, r7, ?_, q2⟩
    rw [List.foldl_cons, ← q, List.map_cons, loop_cons]
    have hbo := t_both (rows.map eRow) ((rngT t.l t.h).map D.int) (by rw [List.length_map, rng_len]; omega) (by rw [List.length_map, List.length_map, rng_len]; omega)
    rw [bothD_map] at hbo
    have hlen : ((bothT rows (rngT t.l t.h)).map fun p => D.tup [eRow p.1, D.int p.2]).length ≤ 1000000 := by rw [List.length_map, both_len, rng_len]; omega
    have hrl1 : ((rngT t.l t.h).map D.int).length ≤ 16777216 := by rw [List.length_map, rng_len]; omega
    have hrng : rangeD t.l (t.h + 1 - t.l).toNat = (rngT t.l t.h).map D.int := rangeD_map _ _
    have lc : C.lc (C.iter (C.ucallM [] d__law_both (C.acons (C.var 3) (C.acons (C.listI (C.iterA W.range2 (C.acons (C.var 6) (C.acons (C.bin O.add (C.var 7) (C.const (.int (1)))) C.anil)))) C.anil)))) (C.gtup 2 (C.gcons (C.gname 11) (C.gcons (C.gname 12) C.gnil))) C.tyes (C.bin O.add (C.var 11) (C.tup (C.acons (C.tup (C.acons (C.var 5) (C.acons (C.var 12) C.anil))) C.anil))) [11, 12]
        [some (.val dg), some (.val ds), some (.val dr), some (.own (.lst (rows.map eRow))), none, some (.val (eW t.w)), some (.val (.int t.l)), some (.val (.int t.h)), none, none, none, none, none, none, none] = .ok (.n (.lst ((rowStep rows t).map eRow))) [some (.val dg), some (.val ds), some (.val dr), some (.val (.lst (rows.map eRow))), none, some (.val (eW t.w)), some (.val (.int t.l)), some (.val (.int t.h)), none, none, none, none, none, none, none] := by
      have := lc_is (P := fun d (p : List Ev × Int) => d = D.tup [eRow p.1, D.int p.2]) (it := C.iter (C.ucallM [] d__law_both (C.acons (C.var 3) (C.acons (C.listI (C.iterA W.range2 (C.acons (C.var 6) (C.acons (C.bin O.add (C.var 7) (C.const (.int (1)))) C.anil)))) C.anil)))) (g := C.gtup 2 (C.gcons (C.gname 11) (C.gcons (C.gname 12) C.gnil))) (t := C.tyes) (e := C.bin O.add (C.var 11) (C.tup (C.acons (C.tup (C.acons (C.var 5) (C.acons (C.var 12) C.anil))) C.anil))) (vs := [11, 12])
        (sl := [some (.val dg), some (.val ds), some (.val dr), some (.own (.lst (rows.map eRow))), none, some (.val (eW t.w)), some (.val (.int t.l)), some (.val (.int t.h)), none, none, none, none, none, none, none])
        (sl1 := [some (.val dg), some (.val ds), some (.val dr), some (.val (.lst (rows.map eRow))), none, some (.val (eW t.w)), some (.val (.int t.l)), some (.val (.int t.h)), none, none, none, none, none, none, none])
        (as := bothT rows (rngT t.l t.h)) (fun _ => true) (fun p => eRow (p.1 ++ [(t.w, p.2)])) (ds := (bothT rows (rngT t.l t.h)).map fun p => D.tup [eRow p.1, D.int p.2])
        (by
          have o1 : -4611686018427387904 ≤ t.l ∧ t.l < 4611686018427387904 := by omega
          have o2 : -4611686018427387904 ≤ t.h + 1 ∧ t.h + 1 < 4611686018427387904 := by omega
          simp only [ev_iter, ev_ucallM, ev_acons, ev_var, ev_listI, ev_iterA, ev_bin, ev_const]
          simp [o1, o2, hrng, -List.length_map, -List.map_map]
          simp only [hrl1, if_true]
          simp [hbo, -List.map_map])
        (is2_map _ _) hlen (fun d p hd hp => by
          subst hd
          have hpl : p.1.length ≤ 4 := by have := hrl p.1 (mem_both.mp hp).1; omega
          refine ⟨[some (.val dg), some (.val ds), some (.val dr), some (.val (.lst (rows.map eRow))), none, some (.val (eW t.w)), some (.val (.int t.l)), some (.val (.int t.h)), none, none, none, some (.val (eRow p.1)), some (.val (.int p.2)), none, none], by simp, rfl, rfl, fun _ => ⟨.v (eRow (p.1 ++ [(t.w, p.2)])), [some (.val dg), some (.val ds), some (.val dr), some (.val (.lst (rows.map eRow))), none, some (.val (eW t.w)), some (.val (.int t.l)), some (.val (.int t.h)), none, none, none, some (.val (eRow p.1)), some (.val (.int p.2)), none, none], [some (.val dg), some (.val ds), some (.val dr), some (.val (.lst (rows.map eRow))), none, some (.val (eW t.w)), some (.val (.int t.l)), some (.val (.int t.h)), none, none, none, some (.val (eRow p.1)), some (.val (.int p.2)), none, none], ?_, rfl, rfl⟩⟩
          have hz : p.1.length + 1 ≤ 16777216 := by omega
          simp [eRow, eE, hz])
      rw [filter_yes] at this
      rw [this]
      unfold rowStep
      rw [List.map_map]
      rfl
    have e : eT t = .tup [eW t.w, .int t.l, .int t.h] := rfl
    rw [e]
    rcases h5 with rfl | ⟨_, rfl⟩ <;> rcases h6 with rfl | ⟨_, rfl⟩ <;> rcases h7 with rfl | ⟨_, rfl⟩ <;> simp [lc, -List.map_map]
theorem eqvL_nil (l : List D) : D.eqvL l [] = l.isEmpty := by cases l <;> simp
theorem layL_ones (n : Nat) (l : List D) (h : ∀ d ∈ l, d = .int 1) : D.layL n l = true := by
  induction l with
  | nil => rfl
  | cons d l ih =>
    rw [h d (by simp)]
    simp [ih fun d hd => h d (by simp [hd])]
/-- a slot's content that may be written over -/
def frB : Option SV → Bool
  | some (.bref _) => false
  | some (.bval _) => false
  | _ => true
@[simp] theorem frB_none : frB none = true := rfl
@[simp] theorem frB_val (d : D) : frB (some (.val d)) = true := rfl
@[simp] theorem frB_own (c : Cell) : frB (some (.own c)) = true := rfl
theorem ev_free (sl : Sl) (i : Nat) : free? sl i = (sl[i]?.map frB).getD false := by
  unfold free?
  cases h : sl[i]? with
  | none => rfl
  | some x =>
    cases x with
    | none => rfl
    | some x => cases x <;> rfl
theorem pairs_loop (dg ds dr0 dw : D) {dq : D} {dr : List D} (hq : dq = .tup dr ∨ dq = .lst dr) {rs : List Rd} (hr : Is2 IsR dr rs) (n : Nat) (hok : okRs n rs) (hlr : rs.length < 60) (hn : n < 1000) : ∀ (ps : List (Int × List Ev)), (∀ p ∈ ps, p.2.length = n) → ∀ (acc : List (Int × List Ev)) (j8 j9 j10 j5 j6 j7 : Option SV), frB j8 = true → frB j9 = true → frB j10 = true → acc.length + ps.length < 1000000 →
    ∃ k8 k9 k10, C.loop (C.gtup 2 (C.gcons (C.gname 8) (C.gcons (C.gname 9) C.gnil))) (C.seq (C.set 10 (C.ucallM [] d__law_levels (C.acons (C.var 9) (C.acons (C.var 8) C.anil))))
    (C.ifS (C.tv (C.bin O.eq (C.lc (C.iter (C.var 2)) (C.gtup 2 (C.gcons (C.gname 13) (C.gcons (C.gname 14) C.gnil))) (C.tv (C.bin O.ne (C.bin O.ix (C.var 10) (C.var 13)) (C.var 14))) (C.const (.int (1))) [13, 14]) (C.lst C.anil))) (C.drop (C.mcall M.append 4 (C.acons (C.tup (C.acons (C.var 8) (C.acons (C.var 9) C.anil))) C.anil))) C.pass)) (ps.map eP)
      [some (.val dg), some (.val ds), some (.val dq), some (.val dw), some (.own (.lst (acc.map eP))), j5, j6, j7, j8, j9, j10, none, none, none, none] = .nx [some (.val dg), some (.val ds), some (.val dq), some (.val dw), some (.own (.lst ((acc ++ ps.filter fun p => rdB p.1 p.2 rs).map eP))), j5, j6, j7, k8, k9, k10, none, none, none, none]
  | [], _, acc, j8, j9, j10, j5, j6, j7, _, _, _, _ => ⟨j8, j9, j10, by simp⟩
  | p :: ps, hpl, acc, j8, j9, j10, j5, j6, j7, h8, h9, h10, hl => by
    have hp := hpl p (by simp)
    have hlv := t_levelsB p.2 p.1 (by omega)
    have hl2 : acc.length < 16777216 := by simp at hl; omega
    have lc : C.lc (C.iter (C.var 2)) (C.gtup 2 (C.gcons (C.gname 13) (C.gcons (C.gname 14) C.gnil))) (C.tv (C.bin O.ne (C.bin O.ix (C.var 10) (C.var 13)) (C.var 14))) (C.const (.int (1))) [13, 14]
        [some (.val dg), some (.val ds), some (.val dq), some (.val dw), some (.own (.lst (acc.map eP))), j5, j6, j7, some (.val (.int p.1)), some (.val (eRow p.2)), some (.own (.lst ((levT p.1 p.2).map D.int))), none, none, none, none] = .ok (.n (.lst ((rs.filter fun r => !decide ((levT p.1 p.2)[r.1.toNat]? = some r.2)).map fun _ => D.int 1))) [some (.val dg), some (.val ds), some (.val dq), some (.val dw), some (.own (.lst (acc.map eP))), j5, j6, j7, some (.val (.int p.1)), some (.val (eRow p.2)), some (.own (.lst ((levT p.1 p.2).map D.int))), none, none, none, none] :=
      lc_is (P := IsR) (sl1 := [some (.val dg), some (.val ds), some (.val dq), some (.val dw), some (.own (.lst (acc.map eP))), j5, j6, j7, some (.val (.int p.1)), some (.val (eRow p.2)), some (.own (.lst ((levT p.1 p.2).map D.int))), none, none, none, none]) (as := rs) (fun r => !decide ((levT p.1 p.2)[r.1.toNat]? = some r.2)) (fun _ => D.int 1) (ds := dr) (by rcases hq with rfl | rfl <;> simp) hr (by rw [is2_len hr]; omega) (fun d r hd hm => by
        obtain ⟨y, hy, hx⟩ := lev_atD (x := p.1) (es := p.2) (hok r hm).1 (by rw [hp]; exact (hok r hm).2)
        refine ⟨[some (.val dg), some (.val ds), some (.val dq), some (.val dw), some (.own (.lst (acc.map eP))), j5, j6, j7, some (.val (.int p.1)), some (.val (eRow p.2)), some (.own (.lst ((levT p.1 p.2).map D.int))), none, none, some (.val (.int r.1)), some (.val (.int r.2))], by rcases hd with rfl | rfl <;> simp, ?_, rfl, fun _ => ⟨.v (.int 1), [some (.val dg), some (.val ds), some (.val dq), some (.val dw), some (.own (.lst (acc.map eP))), j5, j6, j7, some (.val (.int p.1)), some (.val (eRow p.2)), some (.own (.lst ((levT p.1 p.2).map D.int))), none, none, some (.val (.int r.1)), some (.val (.int r.2))], [some (.val dg), some (.val ds), some (.val dq), some (.val dw), some (.own (.lst (acc.map eP))), j5, j6, j7, some (.val (.int p.1)), some (.val (eRow p.2)), some (.own (.lst ((levT p.1 p.2).map D.int))), none, none, some (.val (.int r.1)), some (.val (.int r.2))], rfl, rfl, rfl⟩⟩
        by_cases q : y = r.2 <;> simp [hx, hy, q])
    have hlay : D.layL 8 ((rs.filter fun r => !decide ((levT p.1 p.2)[r.1.toNat]? = some r.2)).map fun _ => D.int 1) = true := layL_ones _ _ (fun d hd => by
      obtain ⟨r, _, rfl⟩ := List.mem_map.mp hd
      rfl)
    have hem : D.eqvL ((rs.filter fun r => !decide ((levT p.1 p.2)[r.1.toNat]? = some r.2)).map fun _ => D.int 1) [] = rdB p.1 p.2 rs := by
      rw [eqvL_nil, Bool.eq_iff_iff, List.isEmpty_iff, List.map_eq_nil_iff, List.filter_eq_nil_iff, rdB, List.all_eq_true]
      simp
    generalize hL : ((rs.filter fun r => !decide ((levT p.1 p.2)[r.1.toNat]? = some r.2)).map fun _ => D.int 1) = L at lc hlay hem
    rw [List.map_cons, loop_cons]
    have e : eP p = .tup [.int p.1, eRow p.2] := rfl
    cases hb : rdB p.1 p.2 rs with
    | true =>
      rw [hb] at hem
      obtain ⟨k8, k9, k10, q⟩ := pairs_loop dg ds dr0 dw hq hr n hok hlr hn ps (fun p hp => hpl p (by simp [hp])) (acc ++ [p]) (some (.val (.int p.1))) (some (.val (eRow p.2))) (some (.own (.lst ((levT p.1 p.2).map D.int)))) j5 j6 j7 rfl rfl rfl (by simp at hl ⊢; omega)
      refine ⟨k8, k9, k10, ?_⟩
      have e1 : acc ++ (p :: ps).filter (fun p => rdB p.1 p.2 rs) = (acc ++ [p]) ++ ps.filter (fun p => rdB p.1 p.2 rs) := by simp [hb]
      rw [e1, ← q, e]
      simp [-free?, ev_free, h8, h9, h10, hlv, lc, hlay, hem, hl2, e]
    | false =>
      rw [hb] at hem
      obtain ⟨k8, k9, k10, q⟩ := pairs_loop dg ds dr0 dw hq hr n hok hlr hn ps (fun p hp => hpl p (by simp [hp])) acc (some (.val (.int p.1))) (some (.val (eRow p.2))) (some (.own (.lst ((levT p.1 p.2).map D.int)))) j5 j6 j7 rfl rfl rfl (by simp at hl ⊢; omega)
      refine ⟨k8, k9, k10, ?_⟩
      have e1 : (p :: ps).filter (fun p => rdB p.1 p.2 rs) = ps.filter (fun p => rdB p.1 p.2 rs) := by simp [hb]
      rw [e1, ← q, e]
      simp [-free?, ev_free, h8, h9, h10, hlv, lc, hlay, hem, hl2]
theorem t_pairs {dq : D} {dr : List D} (hq : dq = .tup dr ∨ dq = .lst dr) {ts : List Tri} {rs : List Rd} (hts : SmT ts) (hr : Is2 IsR dr rs) (hok : okRs ts.length rs) (hlr : rs.length < 60) {a b : Int} (ha : -1000 ≤ a) (hb : b ≤ a + 100) (hab : a ≤ 1000) (hle : a ≤ b) :
    d__law_pairs [.val (.tup (ts.map eT)), .val (eS (some a, some b)), .val dq] = Rn ((pairsT ts a b rs).map eP) [.tup (ts.map eT), eS (some a, some b), dq] := by
  have h4 := hts.len
  have h3 : (3 : Nat) ^ ts.length ≤ 3 ^ 4 := Nat.pow_le_pow_right (by omega) h4
  obtain ⟨k5, k6, k7, r5, r6, r7, q, hqr⟩ := rows_loop (.tup (ts.map eT)) (eS (some a, some b)) dq ts hts.ok [[]] none none none (.inl rfl) (.inl rfl) (.inl rfl) (by simp; omega) (by simp; omega)
  have hqr : (rowsT ts).length ≤ 1000 := hqr
  have hab2 : (b + 1 - a).toNat ≤ 101 := by omega
  have hbo := t_both ((rngT a b).map D.int) ((rowsT ts).map eRow) (by rw [List.length_map]; omega) (by
    rw [List.length_map, List.length_map, rng_len]
    exact Nat.le_trans (Nat.mul_le_mul hab2 hqr) (by omega))
  rw [bothD_map] at hbo
  have eqe : ((bothT (rngT a b) (rowsT ts)).map fun p => D.tup [D.int p.1, eRow p.2]) = (bothT (rngT a b) (rowsT ts)).map eP := rfl
  rw [eqe] at hbo
  obtain ⟨k8, k9, k10, q2⟩ := pairs_loop (.tup (ts.map eT)) (eS (some a, some b)) dq (.lst ((rowsT ts).map eRow)) hq hr ts.length hok hlr (by omega) (bothT (rngT a b) (rowsT ts)) (fun p hp => fg_len ((mem_rows _ _).mp (mem_both.mp hp).2)) [] none none none k5 k6 k7 rfl rfl rfl (by
    rw [both_len, rng_len]
    have := Nat.mul_le_mul hab2 hqr
    simp; omega)
  have q : C.loop _ _ (ts.map eT) [some (.val (.tup (ts.map eT))), some (.val (eS (some a, some b))), some (.val dq), some (.own (.lst [.tup []])), none, none, none, none, none, none, none, none, none, none, none] = _ := q
  simp only [List.nil_append] at q2
  have q2 : C.loop _ _ _ [some (.val (.tup (ts.map eT))), some (.val (eS (some a, some b))), some (.val dq), some (.val (.lst ((rowsT ts).map eRow))), some (.own (.lst [])), k5, k6, k7, none, none, none, none, none, none, none] = _ := q2
  have hrl1 : ((rngT a b).map D.int).length ≤ 16777216 := by rw [List.length_map, rng_len]; omega
  have hrng : rangeD a (b + 1 - a).toNat = (rngT a b).map D.int := rangeD_map _ _
  have o1 : -4611686018427387904 ≤ a ∧ a < 4611686018427387904 := by omega
  have o2 : -4611686018427387904 ≤ b + 1 ∧ b + 1 < 4611686018427387904 := by omega
  have hit : ∀ (x : Option SV), C.iter (C.ucallM [] d__law_both (C.acons (C.listI (C.iterA W.range2 (C.acons (C.bin O.ix (C.var 1) (C.const (.int (0)))) (C.acons (C.bin O.add (C.bin O.ix (C.var 1) (C.const (.int (1)))) (C.const (.int (1)))) C.anil)))) (C.acons (C.var 3) C.anil)))
      [some (.val (.tup (ts.map eT))), some (.val (eS (some a, some b))), some (.val dq), some (.own (.lst ((rowsT ts).map eRow))), some (.own (.lst [])), k5, k6, k7, none, none, none, none, none, none, none] = .ok ((bothT (rngT a b) (rowsT ts)).map eP) [some (.val (.tup (ts.map eT))), some (.val (eS (some a, some b))), some (.val dq), some (.val (.lst ((rowsT ts).map eRow))), some (.own (.lst [])), k5, k6, k7, none, none, none, none, none, none, none] := by
    intro _
    simp only [ev_iter, ev_ucallM, ev_acons, ev_var, ev_listI, ev_iterA, ev_bin, ev_const]
    simp [eS, o1, o2, hrng, -List.length_map, -List.map_map]
    simp only [hrl1, if_true]
    simp [hbo, -List.map_map]
  have hit := hit none
  have hit0 : C.iter (C.var 0) [some (.val (.tup (ts.map eT))), some (.val (eS (some a, some b))), some (.val dq), some (.own (.lst [.tup []])), none, none, none, none, none, none, none, none, none, none, none] = .ok (ts.map eT) [some (.val (.tup (ts.map eT))), some (.val (eS (some a, some b))), some (.val dq), some (.own (.lst [.tup []])), none, none, none, none, none, none, none, none, none, none, none] := by simp
  simp only [d__law_pairs, C.body, b__law_pairs]
  simp only [rowsT] at hit q2
  simp [-ev_iter, -free?, ev_free, ev_forS, hit0, q, hit, q2, -List.map_map, pairsT, rowsT]
end RF.L
set_option maxRecDepth 100000
set_option maxHeartbeats 2000000
namespace RF.L
open PySem RF RF.C
/-! ### _law_ranges -/
theorem minL_le : ∀ (l : List Int) (y : Int), y ∈ l → minL l ≤ y
  | [], _, h => by cases h
  | [a], y, h => by have : y = a := by simpa using h
                    subst this; exact Int.le_refl _
  | a :: b :: l, y, h => by
    have ih := minL_le (b :: l)
    show min a (minL (b :: l)) ≤ y
    rcases List.mem_cons.mp h with rfl | h
    · exact Int.min_le_left _ _
    · exact Int.le_trans (Int.min_le_right _ _) (ih y h)
theorem minL_mem : ∀ (l : List Int), l ≠ [] → minL l ∈ l
  | [], h => absurd rfl h
  | [a], _ => by simp [minL]
  | a :: b :: l, _ => by
    have ih := minL_mem (b :: l) (by simp)
    show min a (minL (b :: l)) ∈ _
    rw [Int.min_def]
    split
    · simp
    · exact List.mem_cons_of_mem _ ih
theorem le_maxL : ∀ (l : List Int) (y : Int), y ∈ l → y ≤ maxL l
  | [], _, h => by cases h
  | [a], y, h => by have : y = a := by simpa using h
                    subst this; exact Int.le_refl _
  | a :: b :: l, y, h => by
    have ih := le_maxL (b :: l)
    show y ≤ max a (maxL (b :: l))
    rcases List.mem_cons.mp h with rfl | h
    · exact Int.le_max_left _ _
    · exact Int.le_trans (ih y h) (Int.le_max_right _ _)
theorem maxL_mem : ∀ (l : List Int), l ≠ [] → maxL l ∈ l
  | [], h => absurd rfl h
  | [a], _ => by simp [maxL]
  | a :: b :: l, _ => by
    have ih := maxL_mem (b :: l) (by simp)
    show max a (maxL (b :: l)) ∈ _
    rw [Int.max_def]
    split
    · exact List.mem_cons_of_mem _ ih
    · simp
/-- a lot that has all between its ends -/
structure Lot (l : List Int) : Prop where
  ne : l ≠ []
  len : l.length ≤ 100000
  bd : ∀ y ∈ l, -10000 ≤ y ∧ y ≤ 10000
  all : ∀ y, minL l ≤ y → y ≤ maxL l → y ∈ l
def eL (l : List Int) : D := .lst (l.map D.int)
theorem any_int (l : List Int) (y : Int) : ((l.map D.int).any fun z => D.eqv z (.int y)) = decide (y ∈ l) := by
  induction l with
  | nil => rfl
  | cons a l ih =>
    rw [List.map_cons, List.any_cons, ih]
    by_cases h1 : a = y
    · subst h1; simp
    · have h2 : ¬ y = a := fun z => h1 z.symm
      by_cases h3 : y ∈ l <;> simp [h1, h2, h3]
theorem layL_int (n : Nat) (l : List Int) : D.layL n (l.map D.int) = true := by
  induction l with
  | nil => rfl
  | cons a l ih => simp [ih]
theorem t_ranges (lots : List (List Int)) (hl : lots.length ≤ 1000) (h : ∀ l ∈ lots, Lot l) : d__law_ranges [.val (.lst (lots.map eL))] = R (.tup [.lst (lots.map fun l => .tup [.int (minL l), .int (maxL l)]), .bl true]) [.lst (lots.map eL)] := by
  have lc1 := lc_is (P := fun d (l : List Int) => d = eL l) (it := C.iter (C.var 0)) (g := C.gname 2) (t := C.tyes) (e := C.tup (C.acons (C.call O.min2 (C.acons (C.var 2) C.anil)) (C.acons (C.call O.max2 (C.acons (C.var 2) C.anil)) C.anil))) (vs := [2])
    (sl := [some (.val (.lst (lots.map eL))), none, none, none, none, none]) (sl1 := [some (.val (.lst (lots.map eL))), none, none, none, none, none]) (as := lots) (fun _ => true) (fun l => .tup [.int (minL l), .int (maxL l)]) (ds := lots.map eL) (by simp) (is2_map _ _) (by rw [List.length_map]; omega) (fun d l hd hm => by
      subst hd
      have hp : 0 < l.length := List.length_pos_iff.mpr (h l hm).ne
      have hi := ints_map l
      refine ⟨[some (.val (.lst (lots.map eL))), none, some (.val (eL l)), none, none, none], by simp, rfl, rfl, fun _ => ⟨.v (.tup [.int (minL l), .int (maxL l)]), [some (.val (.lst (lots.map eL))), none, some (.val (eL l)), none, none, none], [some (.val (.lst (lots.map eL))), none, some (.val (eL l)), none, none, none], ?_, rfl, rfl⟩⟩
      simp [eL, hi, hp])
  rw [filter_yes] at lc1
  generalize hPs : (lots.map fun l => D.tup [.int (minL l), .int (maxL l)]) = Ps at lc1
  have lc2 := lc_is (P := fun d (p : List Int × List Int) => p.1 = p.2 ∧ d = .tup [eL p.1, .tup [.int (minL p.2), .int (maxL p.2)]]) (it := C.iterA W.zip (C.acons (C.var 0) (C.acons (C.var 1) C.anil))) (g := C.gtup 2 (C.gcons (C.gname 2) (C.gcons (C.gtup 2 (C.gcons (C.gname 3) (C.gcons (C.gname 4) C.gnil))) C.gnil))) (t := C.tv (C.bin O.ne (C.lc (C.iterA W.range2 (C.acons (C.var 3) (C.acons (C.bin O.add (C.var 4) (C.const (.int (1)))) C.anil))) (C.gname 5) (C.tv (C.bin O.notin (C.var 5) (C.var 2))) (C.var 5) [5]) (C.lst C.anil))) (e := C.const (.int (1))) (vs := [2, 3, 4])
    (sl := [some (.val (.lst (lots.map eL))), some (.own (.lst Ps)), none, none, none, none]) (sl1 := [some (.val (.lst (lots.map eL))), some (.val (.lst Ps)), none, none, none, none]) (as := lots.map fun l => (l, l)) (fun _ => false) (fun l => .int 1) (ds := zipD (lots.map eL) Ps) (by simp) (by
      rw [← hPs, zipD_map]
      have e : lots.zip lots = lots.map fun l => (l, l) := by
        clear h hl hPs lc1
        induction lots with
        | nil => rfl
        | cons l ls ih => simp; exact ih
      rw [e]
      clear h hl hPs lc1
      induction lots with
      | nil => trivial
      | cons l ls ih => exact ⟨⟨rfl, rfl⟩, ih (by
          clear ih e
          induction ls with
          | nil => rfl
          | cons l ls ih => simp; exact ih)⟩) (by rw [zipD_len, List.length_map, ← hPs, List.length_map]; omega) (fun d p ⟨he, hd⟩ hm => by
      subst hd
      rcases p with ⟨l, l'⟩
      simp only at he
      subst he
      obtain ⟨l2, hm2, e2⟩ := List.mem_map.mp hm
      cases e2
      have L := h l hm2
      have b1 := L.bd _ (minL_mem l L.ne)
      have b2 := L.bd _ (maxL_mem l L.ne)
      have o1 : -4611686018427387904 ≤ minL l ∧ minL l < 4611686018427387904 := by omega
      have o2 : -4611686018427387904 ≤ maxL l + 1 ∧ maxL l + 1 < 4611686018427387904 := by omega
      have hrng : rangeD (minL l) (maxL l + 1 - minL l).toNat = (rngT (minL l) (maxL l)).map D.int := rangeD_map _ _
      refine ⟨[some (.val (.lst (lots.map eL))), some (.val (.lst Ps)), some (.val (eL l)), some (.val (.int (minL l))), some (.val (.int (maxL l))), none], by simp, ?_, rfl, fun z => by cases z⟩
      have lc3 := lc_is (P := fun d (y : Int) => d = .int y) (it := C.iterA W.range2 (C.acons (C.var 3) (C.acons (C.bin O.add (C.var 4) (C.const (.int (1)))) C.anil))) (g := C.gname 5) (t := C.tv (C.bin O.notin (C.var 5) (C.var 2))) (e := C.var 5) (vs := [5])
        (sl := [some (.val (.lst (lots.map eL))), some (.val (.lst Ps)), some (.val (eL l)), some (.val (.int (minL l))), some (.val (.int (maxL l))), none]) (sl1 := [some (.val (.lst (lots.map eL))), some (.val (.lst Ps)), some (.val (eL l)), some (.val (.int (minL l))), some (.val (.int (maxL l))), none]) (as := rngT (minL l) (maxL l)) (fun _ => false) (fun y => .int y) (ds := (rngT (minL l) (maxL l)).map D.int) (by simp [o1, o2, hrng]) (is2_map _ _) (by rw [List.length_map, rng_len]; omega) (fun d y hd hy => by
          subst hd
          have hy2 := mem_rng.mp hy
          have hin := L.all y hy2.1 hy2.2
          have ha := any_int l y
          have hlay := layL_int 8 l
          refine ⟨[some (.val (.lst (lots.map eL))), some (.val (.lst Ps)), some (.val (eL l)), some (.val (.int (minL l))), some (.val (.int (maxL l))), some (.val (.int y))], by simp, ?_, rfl, fun z => by cases z⟩
          simp [eL, ha, hlay, hin, -List.any_map])
      have f0 : (rngT (minL l) (maxL l)).filter (fun _ => false) = [] := by rw [List.filter_eq_nil_iff]; simp
      rw [f0] at lc3
      simp [lc3])
  have f0 : (lots.map fun l => (l, l)).filter (fun _ => false) = [] := by rw [List.filter_eq_nil_iff]; simp
  rw [f0] at lc2
  simp [d__law_ranges, b__law_ranges, lc1, lc2]
theorem if_max2 (a c : Int) : (if a < c then c else a) = max a c := by omega
/-! ### _law_joined, _law_later, _law_inside -/
theorem join_loop (d0 d1 : D) : ∀ (as bs : List S2) (acc : List S2) (j3 j4 j5 j6 : Option SV), frB j3 = true → frB j4 = true → frB j5 = true → frB j6 = true → acc.length + as.length < 1000000 → ∃ k3 k4 k5 k6,
    C.loop (C.gtup 2 (C.gcons (C.gname 3) (C.gcons (C.gname 4) C.gnil))) (C.seq (C.set 5 (C.ite (C.tor (C.tv (C.bin O.isN (C.bin O.ix (C.var 3) (C.const (.int (0)))) (C.const (.non)))) (C.tv (C.bin O.isN (C.bin O.ix (C.var 4) (C.const (.int (0)))) (C.const (.non))))) (C.const (.non)) (C.call O.min2 (C.acons (C.bin O.ix (C.var 3) (C.const (.int (0)))) (C.acons (C.bin O.ix (C.var 4) (C.const (.int (0)))) C.anil)))))
    (C.seq (C.set 6 (C.ite (C.tor (C.tv (C.bin O.isN (C.bin O.ix (C.var 3) (C.const (.int (1)))) (C.const (.non)))) (C.tv (C.bin O.isN (C.bin O.ix (C.var 4) (C.const (.int (1)))) (C.const (.non))))) (C.const (.non)) (C.call O.max2 (C.acons (C.bin O.ix (C.var 3) (C.const (.int (1)))) (C.acons (C.bin O.ix (C.var 4) (C.const (.int (1)))) C.anil)))))
    (C.drop (C.mcall M.append 2 (C.acons (C.tup (C.acons (C.var 5) (C.acons (C.var 6) C.anil))) C.anil))))) (zipD (as.map eS) (bs.map eS))
      [some (.val d0), some (.val d1), some (.own (.lst (acc.map eS))), j3, j4, j5, j6] = .nx [some (.val d0), some (.val d1), some (.own (.lst ((acc ++ List.zipWith hullS as bs).map eS))), k3, k4, k5, k6]
  | [], _, acc, j3, j4, j5, j6, _, _, _, _, _ => ⟨j3, j4, j5, j6, by simp⟩
  | _ :: _, [], acc, j3, j4, j5, j6, _, _, _, _, _ => ⟨j3, j4, j5, j6, by simp⟩
  | a :: as, b :: bs, acc, j3, j4, j5, j6, h3, h4, h5, h6, hl => by
    obtain ⟨k3, k4, k5, k6, q⟩ := join_loop d0 d1 as bs (acc ++ [hullS a b]) (some (.val (eS a))) (some (.val (eS b))) (some (.val (eI (hullS a b).1))) (some (.val (eI (hullS a b).2))) rfl rfl rfl rfl (by simp at hl ⊢; omega)
    refine ⟨k3, k4, k5, k6, ?_⟩
    have hl2 : acc.length < 16777216 := by simp at hl; omega
    have e : acc ++ List.zipWith hullS (a :: as) (b :: bs) = (acc ++ [hullS a b]) ++ List.zipWith hullS as bs := by simp
    rw [e, ← q]
    simp only [List.map_cons, zipD]
    rw [loop_cons]
    rcases a with ⟨_ | a1, _ | a2⟩ <;> rcases b with ⟨_ | b1, _ | b2⟩ <;> simp [-free?, ev_free, h3, h4, h5, h6, eS, hullS, hl2, if_max2, if_min]
theorem t_joined (as bs : List S2) (hl : as.length < 1000) : d__law_joined [.val (.lst (as.map eS)), .val (.lst (bs.map eS))] = Rn ((List.zipWith hullS as bs).map eS) [.lst (as.map eS), .lst (bs.map eS)] := by
  obtain ⟨k3, k4, k5, k6, q⟩ := join_loop (.lst (as.map eS)) (.lst (bs.map eS)) as bs [] none none none none rfl rfl rfl rfl (by simp; omega)
  simp only [List.map_nil, List.nil_append] at q
  simp [d__law_joined, b__law_joined, ev_forS, q]
theorem t_joinNN : d__law_joined [.val .non, .val .non] = R .non [.non, .non] := by
  simp [d__law_joined, b__law_joined]
theorem t_joinNL (l : List D) : d__law_joined [.val .non, .val (.lst l)] = R (.lst l) [.non, .lst l] := by
  simp [d__law_joined, b__law_joined]
theorem t_joinLN (l : List D) : d__law_joined [.val (.lst l), .val .non] = R (.lst l) [.lst l, .non] := by
  simp [d__law_joined, b__law_joined]
def laterT : Option Int → Option Int → Option Int
  | some a, some b => some (max a b)
  | _, _ => none
theorem t_later (a b : Option Int) : d__law_later [.val (eI a), .val (eI b)] = R (eI (laterT a b)) [eI a, eI b] := by
  cases a <;> cases b <;> simp [d__law_later, b__law_later, laterT, if_max2]
theorem t_inside (s : S2) (x : Int) : d__law_inside [.val (eS s), .val (.int x)] = R (.bl (inB s x)) [eS s, .int x] := by
  rcases s with ⟨_ | a, _ | b⟩
  · simp [d__law_inside, b__law_inside, eS, inB]
  · simp [d__law_inside, b__law_inside, eS, inB]
  · by_cases h : a ≤ x <;> simp [d__law_inside, b__law_inside, eS, inB, h]
  · by_cases h : a ≤ x <;> simp [d__law_inside, b__law_inside, eS, inB, h]
/-! ### _law_soft -/
theorem t_listsI (n : Nat) (i : Int) : d__law_lists (n + 1) [.val (.int i)] = R (.int i) [.int i] := by
  show C.body 1 2 (b__law_lists (d__law_lists n)) _ = _
  simp [b__law_lists]
theorem t_listsW (n : Nat) (w : Wd) : d__law_lists (n + 1) [.val (eW w)] = R (eW w) [eW w] := by
  show C.body 1 2 (b__law_lists (d__law_lists n)) _ = _
  cases w <;> simp [b__law_lists, eW]
theorem t_listsC (n : Nat) (ds es : List D) (hl : ds.length ≤ 1000000) (h : Is2 (fun d e => ∃ fin, d__law_lists n [.val d] = .ok (.v e) fin ∨ ∃ l, e = .lst l ∧ d__law_lists n [.val d] = .ok (.n (.lst l)) fin) ds es) : d__law_lists (n + 1) [.val (.tup ds)] = Rn es [.tup ds] := by
  have key : ∀ (xs ys : List D), Is2 (fun d e => ∃ fin, d__law_lists n [.val d] = .ok (.v e) fin ∨ ∃ l, e = .lst l ∧ d__law_lists n [.val d] = .ok (.n (.lst l)) fin) xs ys → ∀ j, frB j = true → ∃ k, frB k = true ∧ C.lcrun (C.gname 1) C.tyes (C.ucallM [] (d__law_lists n) (C.acons (C.var 1) C.anil)) [1] xs [some (.val (.tup ds)), j] = some (ys, [some (.val (.tup ds)), k]) := by
    intro xs
    induction xs with
    | nil =>
      intro ys h j hj
      cases ys with
      | nil => exact ⟨j, hj, rfl⟩
      | cons y ys => exact h.elim
    | cons x xs ih =>
      intro ys h j hj
      cases ys with
      | nil => exact h.elim
      | cons y ys =>
        obtain ⟨⟨fin, hf⟩, h2⟩ := h
        obtain ⟨k, hk, q⟩ := ih ys h2 (some (.val x)) rfl
        refine ⟨k, hk, ?_⟩
        rw [lcrun_cons]
        rcases hf with hf | ⟨l, rfl, hf⟩
        · simp [hf, q, ev_tyes]
        · simp [hf, q, ev_tyes]
  obtain ⟨k, _, q⟩ := key ds es h none rfl
  have hle := is2_len h
  have lc : C.lc (C.iter (C.var 0)) (C.gname 1) C.tyes (C.ucallM [] (d__law_lists n) (C.acons (C.var 1) C.anil)) [1] [some (.val (.tup ds)), none] = .ok (.n (.lst es)) [some (.val (.tup ds)), none] := by
    rw [ev_lc]
    have hz : es.length ≤ 1000000 := by omega
    simp [q, hz]
  show C.body 1 2 (b__law_lists (d__law_lists n)) _ = _
  simp [b__law_lists, lc]
theorem t_listsT (n : Nat) (t : Tri) : d__law_lists (n + 2) [.val (eT t)] = Rn [eW t.w, .int t.l, .int t.h] [eT t] :=
  t_listsC (n + 1) _ _ (by simp) ⟨⟨_, .inl (t_listsW n t.w)⟩, ⟨_, .inl (t_listsI n t.l)⟩, ⟨_, .inl (t_listsI n t.h)⟩, trivial⟩
theorem t_listsR (n : Nat) (r : Rd) : d__law_lists (n + 2) [.val (eR r)] = Rn [.int r.1, .int r.2] [eR r] :=
  t_listsC (n + 1) _ _ (by simp) ⟨⟨_, .inl (t_listsI n r.1)⟩, ⟨_, .inl (t_listsI n r.2)⟩, trivial⟩
theorem is2_of {α : Type} {P : D → D → Prop} (f g : α → D) (h : ∀ a, P (f a) (g a)) : ∀ l : List α, Is2 P (l.map f) (l.map g)
  | [] => trivial
  | a :: l => ⟨h a, is2_of f g h l⟩
theorem is2_to {α : Type} {P : D → α → Prop} (f : α → D) (h : ∀ a, P (f a) a) : ∀ l : List α, Is2 P (l.map f) l
  | [] => trivial
  | a :: l => ⟨h a, is2_to f h l⟩
theorem t_listsG (ts : List Tri) (hl : ts.length ≤ 1000) : d__law_lists 8 [.val (.tup (ts.map eT))] = Rn (ts.map fun t => .lst [eW t.w, .int t.l, .int t.h]) [.tup (ts.map eT)] :=
  t_listsC 7 _ _ (by rw [List.length_map]; omega) (is2_of _ _ (fun t => ⟨_, .inr ⟨_, rfl, t_listsT 5 t⟩⟩) ts)
theorem t_listsQ (rs : List Rd) (hl : rs.length ≤ 1000) : d__law_lists 8 [.val (.tup (rs.map eR))] = Rn (rs.map fun r => .lst [.int r.1, .int r.2]) [.tup (rs.map eR)] :=
  t_listsC 7 _ _ (by rw [List.length_map]; omega) (is2_of _ _ (fun t => ⟨_, .inr ⟨_, rfl, t_listsR 5 t⟩⟩) rs)
theorem isG (ts : List Tri) : IsQ IsT (.tup (ts.map eT)) ts := ⟨_, .inl rfl, is2_to eT (fun _ => .inl rfl) ts⟩
theorem isGL (ts : List Tri) : IsQ IsT (.lst (ts.map fun t => .lst [eW t.w, .int t.l, .int t.h])) ts := ⟨_, .inr rfl, is2_to _ (fun _ => .inr rfl) ts⟩
theorem isR (rs : List Rd) : IsQ IsR (.tup (rs.map eR)) rs := ⟨_, .inl rfl, is2_to eR (fun _ => .inl rfl) rs⟩
theorem isRL (rs : List Rd) : IsQ IsR (.lst (rs.map fun r => .lst [.int r.1, .int r.2])) rs := ⟨_, .inr rfl, is2_to _ (fun _ => .inr rfl) rs⟩
/-- what soft hands on -/
def SoftR (u' : List D) (d dg : D) : CRes → Prop := fun r => r = .ok (.v dg) [some (.bref (.lst u')), some (.val d)] ∨ ∃ l, dg = .lst l ∧ r = .ok (.n (.lst l)) [some (.bref (.lst u')), some (.val d)]
theorem t_softG {n : Nat} {u : List D} (hu : Urn n u) (hn : n < 1000000) (ts : List Tri) (hl : ts.length ≤ 1000) :
    ∃ u' dg, Urn (n + 1) u' ∧ IsQ IsT dg ts ∧ SoftR u' (.tup (ts.map eT)) dg (d__law_soft [.bref (.lst u), .val (.tup (ts.map eT))]) := by
  obtain ⟨v, u', e1, e2, e3, e4⟩ := t_take hu hn (low := 3) (by omega) (by omega)
  have hg := t_listsG ts hl
  by_cases h : v = 0
  · refine ⟨u', _, e3, isGL ts, .inr ⟨_, rfl, ?_⟩⟩
    simp [d__law_soft, b__law_soft, e4, h, hg]
  · refine ⟨u', _, e3, isG ts, .inl ?_⟩
    simp [d__law_soft, b__law_soft, e4, h]
theorem t_softR {n : Nat} {u : List D} (hu : Urn n u) (hn : n < 1000000) (rs : List Rd) (hl : rs.length ≤ 1000) :
    ∃ u' dg, Urn (n + 1) u' ∧ IsQ IsR dg rs ∧ SoftR u' (.tup (rs.map eR)) dg (d__law_soft [.bref (.lst u), .val (.tup (rs.map eR))]) := by
  obtain ⟨v, u', e1, e2, e3, e4⟩ := t_take hu hn (low := 3) (by omega) (by omega)
  have hg := t_listsQ rs hl
  by_cases h : v = 0
  · refine ⟨u', _, e3, isRL rs, .inr ⟨_, rfl, ?_⟩⟩
    simp [d__law_soft, b__law_soft, e4, h, hg]
  · refine ⟨u', _, e3, isR rs, .inl ?_⟩
    simp [d__law_soft, b__law_soft, e4, h]
/-! ### _law_box, _law_cells -/
theorem t_box (x : Int) : ∃ u, Urn 0 u ∧ d__law_box [.val (.lst [.int x]), .val (.int 0)] = Rn u [.lst [.int x], .int 0] := by
  have h : ∀ b : Bool, (-(18446744073709551616) < (if b = true then (1 : Int) else 0) ∧ (if b = true then (1 : Int) else 0) < 18446744073709551616) := by
    intro b; cases b <;> simp
  refine ⟨_, ⟨(if x < 0 then -x else x) * (if decide (1000000000000000000 ≤ (if x < 0 then -x else x)) = true then 1 else 0), x % 2305843009213693951 + 862373, 0, rfl, by omega, by omega⟩, ?_⟩
  have h2 := h (decide (1000000000000000000 ≤ (if x < 0 then -x else x)))
  simp [d__law_box, b__law_box]
  simp at h2
  simp [h2]
theorem cut_map (ns : List Int) (lo hi : Option Int) : ∃ ms : List Int, cutD (ns.map D.int) lo hi = ms.map D.int ∧ ms.length ≤ ns.length := by
  refine ⟨(ns.drop (HT.sIx (ns.map D.int).length 0 lo)).take (HT.sIx (ns.map D.int).length (ns.map D.int).length hi - HT.sIx (ns.map D.int).length 0 lo), ?_, ?_⟩
  · unfold cutD
    rw [← List.map_drop, ← List.map_take]
  · rw [List.length_take, List.length_drop]; omega
theorem cut_1 (ns : List Int) : cutD (ns.map D.int) none (some 1) = (ns.take 1).map D.int := by
  unfold cutD
  have h := HT.sIx_nat (ns.map D.int).length (ns.map D.int).length 1
  have h : HT.sIx (ns.map D.int).length (ns.map D.int).length (some 1) = _ := h
  rw [h, HT.sIx_none, List.drop_zero, Nat.sub_zero, List.length_map, List.map_take, List.take_eq_take_iff, List.length_map]
  omega
theorem cells_loop (d0 : D) : ∀ (ms : List Int) (k : Nat) (x : Int) (j3 j4 j5 : Option SV), frB j3 = true → frB j4 = true → frB j5 = true → k + ms.length < 1000000 → ∃ y k3 k4 k5,
    C.loop (C.gtup 2 (C.gcons (C.gname 3) (C.gcons (C.gname 4) C.gnil))) (C.seq (C.set 5 (C.bin O.mod (C.call O.int (C.acons (C.var 3) C.anil)) (C.var 1)))
    (C.sset 2 (C.var 5) (C.bin O.add (C.bin O.ix (C.var 2) (C.var 5)) (C.bin O.mul (C.var 4) (C.bin O.add (C.var 3) (C.const (.int (2)))))))) (enumD k (ms.map D.int))
      [some (.val d0), some (.val (.int 1)), some (.own (.lst [.int x])), j3, j4, j5] = .nx [some (.val d0), some (.val (.int 1)), some (.own (.lst [.int y])), k3, k4, k5]
  | [], k, x, j3, j4, j5, _, _, _, _ => ⟨x, j3, j4, j5, rfl⟩
  | m :: ms, k, x, j3, j4, j5, h3, h4, h5, hl => by
    obtain ⟨y, k3, k4, k5, q⟩ := cells_loop d0 ms (k + 1) (x + m * (k + 2)) (some (.val (.int k))) (some (.val (.int m))) (some (.val (.int 0))) rfl rfl rfl (by simp at hl; omega)
    refine ⟨y, k3, k4, k5, ?_⟩
    rw [← q]
    show C.loop _ _ (.tup [.int k, .int m] :: enumD (k + 1) (ms.map D.int)) _ = _
    rw [loop_cons]
    have o : -(18446744073709551616) < (k : Int) + 2 ∧ (k : Int) + 2 < 18446744073709551616 := by simp at hl; omega
    simp [-free?, ev_free, h3, h4, h5, o, ixD]
theorem t_cells (ns : List Int) (h : ns.length ≤ 63) : ∃ x, d__law_cells [.val (.kls (ns.map D.int)), .val (.int 1)] = Rn [.int x] [.kls (ns.map D.int), .int 1] := by
  obtain ⟨ms, e1, e2⟩ := cut_map ns (some 1) (some 63)
  have e3 := cut_1 ns
  cases ns with
  | nil =>
    obtain ⟨y, k3, k4, k5, q⟩ := cells_loop (.kls []) [] 0 0 none none none rfl rfl rfl (by simp)
    refine ⟨y, ?_⟩
    have e1 : cutD [] (some 1) (some 63) = [] := rfl
    have e3 : cutD [] none (some 1) = [] := rfl
    simp [d__law_cells, b__law_cells, ev_forS, e1, e3] at q ⊢
    simp [q]
  | cons n ns =>
    obtain ⟨y, k3, k4, k5, q⟩ := cells_loop (.kls ((n :: ns).map D.int)) ms 0 n none none none rfl rfl rfl (by simp at e2 h ⊢; omega)
    refine ⟨y, ?_⟩
    have e3 : cutD ((n :: ns).map D.int) none (some 1) = [.int n] := by rw [e3]; rfl
    generalize (n :: ns).map D.int = L at *
    simp only [d__law_cells, C.body, b__law_cells]
    simp [ev_forS, e1, e3, q]
/-! ### _law_pick -/
theorem er_map {α β : Type} (f : α → β) : ∀ (l : List α) (i : Nat), (l.map f).eraseIdx i = (l.eraseIdx i).map f
  | [], _ => by simp
  | a :: l, 0 => by simp
  | a :: l, i + 1 => by simp [er_map f l i]
theorem pick_loop (dm : D) (Ms : List Int) : ∀ (ds : List D) (n : Nat) (u : List D), Urn n u → n + ds.length < 1000000 → ∀ (left found : List Int) (j3 : Option SV), frB j3 = true → ds.length ≤ left.length → left.length < 1000 → found.length + ds.length < 1000 → (∀ i ∈ left, i ∈ Ms) → (∀ i ∈ found, i ∈ Ms) → (∀ d ∈ ds, ∃ i : Int, d = .int i) → ∀ (d1 : D),
    ∃ (u' : List D) (left' found' : List Int) (k3 : Option SV), Urn (n + ds.length) u' ∧ (∀ i ∈ found', i ∈ Ms) ∧ found'.length = found.length + ds.length ∧
    C.loop (C.gname 3) (C.drop (C.mcall M.append 5 (C.acons (C.mcall M.pop 4 (C.acons (C.ucallM [true, false] d__law_take (C.acons (C.var 0) (C.acons (C.call O.len (C.acons (C.var 4) C.anil)) C.anil))) C.anil)) C.anil))) ds
      [some (.bref (.lst u)), some (.val d1), some (.val dm), j3, some (.own (.lst (left.map D.int))), some (.own (.lst (found.map D.int)))] = .nx [some (.bref (.lst u')), some (.val d1), some (.val dm), k3, some (.own (.lst (left'.map D.int))), some (.own (.lst (found'.map D.int)))]
  | [], n, u, hu, _, left, found, j3, _, _, _, _, _, hf, _, d1 => ⟨u, left, found, j3, by simpa using hu, hf, by simp, rfl⟩
  | d :: ds, n, u, hu, hn, left, found, j3, h3, hl, hl2, hl3, hM, hf, hd, d1 => by
    simp only [List.length_cons] at hn hl hl3
    obtain ⟨v, u1, e1, e2, e3, e4⟩ := t_take hu (by omega) (low := (left.length : Int)) (by omega) (by omega)
    obtain ⟨i, rfl⟩ := hd d (by simp)
    obtain ⟨x, hx⟩ : ∃ x, left[v.toNat]? = some x := ⟨_, List.getElem?_eq_getElem (by omega)⟩
    have hxm : x ∈ left := List.mem_of_getElem? hx
    obtain ⟨u', left', found', k3, q1, q2, q3, q4⟩ := pick_loop dm Ms ds (n + 1) u1 e3 (by omega) (left.eraseIdx v.toNat) (found ++ [x]) (some (.val (.int i))) rfl (by rw [List.length_eraseIdx]; split <;> omega) (by rw [List.length_eraseIdx]; split <;> omega) (by simp; omega) (fun i hi => hM i (List.mem_of_mem_eraseIdx hi)) (fun i hi => by
      rcases List.mem_append.mp hi with h | h
      · exact hf i h
      · have : i = x := by simpa using h
        subst this; exact hM i hxm) (fun d hd' => hd d (by simp [hd'])) d1
    refine ⟨u', left', found', k3, by rw [List.length_cons, show n + (ds.length + 1) = n + 1 + ds.length by omega]; exact q1, q2, by rw [q3]; simp; omega, ?_⟩
    rw [← q4, loop_cons]
    have hi : ixD left.length v = some v.toNat := by
      unfold ixD
      rw [if_pos e1, if_pos e2]
    have o : -(9223372036854775808) ≤ v ∧ v < 9223372036854775808 := by omega
    have hf2 : found.length < 16777216 := by omega
    have hx2 : (left.map D.int)[v.toNat]? = some (.int x) := by rw [List.getElem?_map, hx]; rfl
    have hx3 : (left.map D.int).eraseIdx v.toNat = (left.eraseIdx v.toNat).map D.int := er_map _ _ _
    simp [-free?, ev_free, h3, e4, hi, o, hx, hx3, hf2]
theorem rangeD_ints (n : Nat) : ∀ d ∈ rangeD 0 n, ∃ i : Int, d = .int i := fun d hd => by
  obtain ⟨i, _, rfl⟩ := List.mem_map.mp hd
  exact ⟨_, rfl⟩
theorem t_pick {n : Nat} {u : List D} (hu : Urn n u) (hn : n < 100000) (L : List Int) (hL : L.length < 500) {m : Int} (hm0 : 0 ≤ m) (hm : m < 400) :
    ∃ (u' : List D) (P : List Int), Urn (n + 400) u' ∧ (∀ i ∈ P, i ∈ L) ∧ (P.length : Int) ≤ m ∧ d__law_pick [.bref (.lst u), .val (.lst (L.map D.int)), .val (.int m)] = .ok (.n (.lst (P.map D.int))) [some (.bref (.lst u')), some (.val (.lst (L.map D.int))), some (.val (.int m))] := by
  have hlen : (rangeD 0 (min m L.length).toNat).length = (min m L.length).toNat := by simp [rangeD]
  obtain ⟨u', left', found', k3, q1, q2, q3, q4⟩ := pick_loop (.int m) L (rangeD 0 (min m L.length).toNat) n u hu (by rw [hlen]; omega) L [] none rfl (by rw [hlen]; omega) (by omega) (by rw [hlen]; simp; omega) (fun i h => h) (by simp) (rangeD_ints _) (.lst (L.map D.int))
  refine ⟨u', found', q1.up (by rw [hlen]; omega), q2, by rw [q3, hlen]; simp; omega, ?_⟩
  have o2 : (-4611686018427387904 ≤ min m (L.length : Int)) ∧ min m (L.length : Int) < 4611686018427387904 := by omega
  simp only [List.map_nil] at q4
  simp [d__law_pick, b__law_pick, ev_forS, if_min, o2]
  simp [q4]
end RF.L
set_option maxRecDepth 100000
set_option maxHeartbeats 2000000
namespace RF.L
open PySem RF RF.C
/-! ### steps -/
theorem seq_step {a b : SDen} {sl sl1 : Sl} {r : SRes} (h1 : a sl = .nx sl1) (h2 : b sl1 = r) : C.seq a b sl = r := by
  rw [ev_seq, h1]; exact h2
theorem seq_rt {a b : SDen} {sl sl1 : Sl} {r : RV} (h1 : a sl = .rt r sl1) : C.seq a b sl = .rt r sl1 := by
  rw [ev_seq, h1]
theorem ifF {t : TDen} {a b : SDen} {sl sl1 : Sl} {r : SRes} (h : t sl = .ok false sl1) (h2 : b sl1 = r) : C.ifS t a b sl = r := by
  rw [ev_ifS, h]; simpa using h2
theorem ifT {t : TDen} {a b : SDen} {sl sl1 : Sl} {r : SRes} (h : t sl = .ok true sl1) (h2 : a sl1 = r) : C.ifS t a b sl = r := by
  rw [ev_ifS, h]; simpa using h2
theorem body_rt {np nl : Nat} {b : SDen} {xs : List SV} {d : D} {sl : Sl} (h0 : xs.length = np) (h : b (xs.map some ++ List.replicate (nl - np) none) = .rt (.v d) sl) : C.body np nl b xs = .ok (.v d) (C.fin xs sl) := by
  unfold C.body
  rw [if_pos h0, h]
/-- it returns True, the draws being at u -/
def Good (u : List D) (r : SRes) : Prop := ∃ sl, r = .rt (.v (.bl true)) sl ∧ sl.head? = some (some (.bref (.lst u)))
theorem gd {u : List D} {a b : SDen} {sl sl1 : Sl} (h1 : a sl = .nx sl1) (h2 : Good u (b sl1)) : Good u (C.seq a b sl) := by
  rw [ev_seq, h1]; exact h2
theorem gdF {u : List D} {t : TDen} {a b : SDen} {sl sl1 : Sl} (h : t sl = .ok false sl1) (h2 : Good u (b sl1)) : Good u (C.ifS t a b sl) := by
  rw [ev_ifS, h]; simpa using h2
theorem gdT {u : List D} {t : TDen} {a b : SDen} {sl sl1 : Sl} (h : t sl = .ok true sl1) (h2 : Good u (a sl1)) : Good u (C.ifS t a b sl) := by
  rw [ev_ifS, h]; simpa using h2
theorem nxF {t : TDen} {a b : SDen} {sl sl1 sl2 : Sl} (h : t sl = .ok false sl1) (h2 : b sl1 = .nx sl2) : C.ifS t a b sl = .nx sl2 := by
  rw [ev_ifS, h]; simpa using h2
theorem nxT {t : TDen} {a b : SDen} {sl sl1 sl2 : Sl} (h : t sl = .ok true sl1) (h2 : a sl1 = .nx sl2) : C.ifS t a b sl = .nx sl2 := by
  rw [ev_ifS, h]; simpa using h2
theorem nxS {a b : SDen} {sl sl1 sl2 : Sl} (h1 : a sl = .nx sl1) (h2 : b sl1 = .nx sl2) : C.seq a b sl = .nx sl2 := by
  rw [ev_seq, h1]; exact h2
theorem gdR {u : List D} {e : Den} {sl sl1 : Sl} (h : e sl = .ok (.v (.bl true)) sl1) (h2 : sl1.head? = some (some (.bref (.lst u)))) : Good u (C.ret e sl) := ⟨sl1, by rw [ev_ret, h], h2⟩
theorem fin_vals (ds : List D) (sl : Sl) : C.fin (ds.map .val) sl = ds.map fun d => some (SV.val d) := by
  induction ds generalizing sl with
  | nil => rfl
  | cons d ds ih => simp [ih]
theorem good_body {np nl : Nat} {b : SDen} {w u : List D} (ds : List D) (h0 : ds.length + 1 = np) (h : Good u (b ((some (.bref (.lst w)) :: ds.map fun d => some (SV.val d)) ++ List.replicate (nl - np) none))) :
    C.body np nl b (.bref (.lst w) :: ds.map .val) = .ok (.v (.bl true)) (some (.bref (.lst u)) :: ds.map fun d => some (SV.val d)) := by
  obtain ⟨sl, h1, h2⟩ := h
  have h3 : (SV.bref (.lst w) :: ds.map SV.val).map some = some (.bref (.lst w)) :: ds.map fun d => some (SV.val d) := by simp
  unfold C.body
  rw [if_pos (by simpa using h0), h3, h1]
  show CRes.ok _ (sl.head?.join :: C.fin (ds.map .val) sl.tail) = _
  rw [h2, fin_vals]
  rfl
/-- a comprehension whose first turn lets something go -/
theorem lcrun_two {α : Type} {P : D → α → Prop} {g : GDen} {t : TDen} {e : Den} {vs : List Nat} {slA slB : Sl} (p : α → Bool) (f : α → D) : ∀ (ds : List D) (as : List α), Is2 P ds as → ∀ (slc : Sl), (wipeS slc vs = wipeS slA vs ∨ wipeS slc vs = wipeS slB vs) →
    (∀ d a st, P d a → a ∈ as → (st = wipeS slA vs ∨ st = wipeS slB vs) → ∃ sl2 sl3, g.run d st = some sl2 ∧ t sl2 = .ok (p a) sl3 ∧ (p a = false → wipeS sl3 vs = wipeS slB vs) ∧ (p a = true → ∃ r sl4 sl5, e sl3 = .ok r sl4 ∧ frz r sl4 = some (f a, sl5) ∧ wipeS sl5 vs = wipeS slB vs)) →
    ∃ sl', C.lcrun g t e vs ds slc = some ((as.filter p).map f, sl') ∧ (ds = [] → sl' = slc) ∧ (ds ≠ [] → wipeS sl' vs = wipeS slB vs)
  | [], [], _, slc, hw, _ => ⟨slc, rfl, fun _ => rfl, fun h => absurd rfl h⟩
  | [], _ :: _, h, _, _, _ => h.elim
  | _ :: _, [], h, _, _, _ => h.elim
  | d :: ds, a :: as, ⟨hd, hs⟩, slc, hw, h => by
    obtain ⟨sl2, sl3, e1, e2, e3, e4⟩ := h d a (wipeS slc vs) hd (by simp) hw
    have nil : ∀ sl4 : Sl, wipeS sl4 vs = wipeS slB vs → ∃ sl', C.lcrun g t e vs ds sl4 = some ((as.filter p).map f, sl') ∧ wipeS sl' vs = wipeS slB vs := fun sl4 q => by
      obtain ⟨sl', k1, k2, k3⟩ := lcrun_two p f ds as hs sl4 (.inr q) fun d' a' st h1 h2 => h d' a' st h1 (by simp [h2])
      refine ⟨sl', k1, ?_⟩
      by_cases hd : ds = []
      · rw [k2 hd]; exact q
      · exact k3 hd
    rw [lcrun_cons, e1]
    simp only
    rw [e2]
    cases hp : p a with
    | false =>
      obtain ⟨sl', k1, k2⟩ := nil sl3 (e3 hp)
      rw [List.filter_cons_of_neg (by simp [hp])]
      exact ⟨sl', k1, fun z => absurd z (by simp), fun _ => k2⟩
    | true =>
      obtain ⟨r, sl4, sl5, q1, q2, q3⟩ := e4 hp
      obtain ⟨sl', k1, k2⟩ := nil sl5 q3
      refine ⟨sl', ?_, fun z => absurd z (by simp), fun _ => k2⟩
      simp only [q1, q2, k1]
      rw [List.filter_cons_of_pos hp, List.map_cons]
theorem lc_two {α : Type} {P : D → α → Prop} {it : IDen} {g : GDen} {t : TDen} {e : Den} {vs : List Nat} {sl slA slB : Sl} {ds : List D} {as : List α} (p : α → Bool) (f : α → D) (hit : it sl = .ok ds slA) (hs : Is2 P ds as) (hl : ds.length ≤ 1000000) (hn : ds ≠ []) (hb : ∀ sl', wipeS sl' vs = wipeS slB vs → backS slA (wipeS sl' vs) vs = slB)
    (h : ∀ d a st, P d a → a ∈ as → (st = wipeS slA vs ∨ st = wipeS slB vs) → ∃ sl2 sl3, g.run d st = some sl2 ∧ t sl2 = .ok (p a) sl3 ∧ (p a = false → wipeS sl3 vs = wipeS slB vs) ∧ (p a = true → ∃ r sl4 sl5, e sl3 = .ok r sl4 ∧ frz r sl4 = some (f a, sl5) ∧ wipeS sl5 vs = wipeS slB vs)) :
    C.lc it g t e vs sl = .ok (.n (.lst ((as.filter p).map f))) slB := by
  obtain ⟨sl', k1, _, k2⟩ := lcrun_two (slA := slA) (slB := slB) p f ds as hs (wipeS slA vs) (.inl (wipe_idem slA vs)) h
  unfold C.lc
  rw [hit]
  simp only
  rw [k1]
  simp only
  rw [if_pos, hb _ (k2 hn)]
  rw [List.length_map]
  refine Nat.le_trans (List.length_filter_le _ _) ?_
  rw [← is2_len hs]
  exact hl
/-! ### ranges of lengths (not by simp: it would ask the kernel for great numbers one by one) -/
theorem okR_ok {N : Int} (h : -1000000 ≤ N ∧ N ≤ 1000000) : C.okR N = true := by
  rw [C.okR_eq, Bool.and_eq_true, decide_eq_true_eq, decide_eq_true_eq]
  omega
theorem it_range3 {N : Int} (h : -100000 ≤ N ∧ N ≤ 100000) {i : Nat} {sl : Sl} (h6 : sl[i]? = some (some (.val (.int N)))) : C.iterA W.range3 (C.acons (C.var i) (C.acons (C.un O.neg (C.const (.int (1)))) (C.acons (C.un O.neg (C.const (.int (1)))) C.anil))) sl = .ok (rangeDC N (-1) (N - -1).toNat) sl := by
  have h1 : C.okR N = true := okR_ok (by omega)
  have h2 : C.okR (-1) = true := okR_ok (by omega)
  simp [h6, h1, h2, -C.okR_eq]
theorem it_range1v {N : Int} (h : -100000 ≤ N ∧ N ≤ 100000) {i : Nat} {sl : Sl} (h6 : sl[i]? = some (some (.val (.int N)))) : C.iterA W.range1 (C.acons (C.var i) C.anil) sl = .ok (rangeD 0 N.toNat) sl := by
  have h1 : C.okR N = true := okR_ok (by omega)
  simp [h6, h1, -C.okR_eq]
theorem it_range1p {N : Int} (h : -100000 ≤ N ∧ N ≤ 100000) {i : Nat} {sl : Sl} (h6 : sl[i]? = some (some (.val (.int N)))) : C.iterA W.range1 (C.acons (C.bin O.add (C.var i) (C.const (.int (1)))) C.anil) sl = .ok (rangeD 0 (N + 1).toNat) sl := by
  have h1 : C.okR (N + 1) = true := okR_ok (by omega)
  simp [h6, h1, -C.okR_eq]
theorem it_range1 {A : ADen} {N : Int} (h : -100000 ≤ N ∧ N ≤ 100000) {sl : Sl} (h6 : A sl = .ok [.v (.int N)] sl) : C.iterA W.range1 A sl = .ok (rangeD 0 N.toNat) sl := by
  have h1 : C.okR N = true := okR_ok (by omega)
  simp [h6, h1, -C.okR_eq]
theorem forS_of {g : GDen} {it : IDen} {b : SDen} {sl sl1 : Sl} {ds : List D} {r : SRes} (h : it sl = .ok ds sl1) (h2 : C.loop g b ds sl1 = r) : C.forS g it b sl = r := by
  rw [ev_forS, h]; exact h2
theorem loop_step {g : GDen} {b : SDen} {d : D} {ds : List D} {sl sl1 sl2 : Sl} {r : SRes} (h1 : g.run d sl = some sl1) (h2 : b sl1 = .nx sl2) (h3 : C.loop g b ds sl2 = r) : C.loop g b (d :: ds) sl = r := by
  rw [loop_cons, h1]
  simp only
  rw [h2]
  exact h3
/-! ### lots -/
theorem lot_of {z : S2} {l : List Int} (h : ∀ y, inS z y ↔ y ∈ l) (ne : l ≠ []) (len : l.length ≤ 100000) (bd : ∀ y ∈ l, -10000 ≤ y ∧ y ≤ 10000) : Lot l ∧ eS z = .tup [.int (minL l), .int (maxL l)] := by
  have m1 := minL_mem l ne
  have m2 := maxL_mem l ne
  have b1 := bd _ m1
  have b2 := bd _ m2
  have i1 := (h _).mpr m1
  have i2 := (h _).mpr m2
  rcases z with ⟨_ | z1, _ | z2⟩
  · have := bd _ ((h (-10001)).mp (by simp)); omega
  · have := bd _ ((h (min z2 (-10001))).mp (by simp; omega)); omega
  · have := bd _ ((h (max z1 10001)).mp (by simp; omega)); omega
  · rw [inS_ss] at i1 i2
    have j1 := minL_le l z1 ((h z1).mp (by rw [inS_ss]; omega))
    have j2 := le_maxL l z2 ((h z2).mp (by rw [inS_ss]; omega))
    have e1 : minL l = z1 := by omega
    have e2 : maxL l = z2 := by omega
    refine ⟨⟨ne, len, bd, fun y h1 h2 => (h y).mp (by rw [inS_ss]; omega)⟩, ?_⟩
    rw [e1, e2]; rfl
theorem ev_bd {ts : List Tri} (h : SmT ts) {es : List Ev} (hf : fgT ts es = true) : ∀ e ∈ es, -8 ≤ e.2 ∧ e.2 ≤ 8 := by
  have : ∀ (ts : List Tri) (es : List Ev), (∀ t ∈ ts, t.l ≤ t.h ∧ t.h ≤ t.l + 2 ∧ -6 ≤ t.l ∧ t.l ≤ 6) → fgT ts es = true → ∀ e ∈ es, -8 ≤ e.2 ∧ e.2 ≤ 8 := by
    intro ts
    induction ts with
    | nil => intro es _ hf e he; have := fg_len hf; cases es <;> simp at this he
    | cons t ts ih =>
      intro es hok hf e he
      cases es with
      | nil => cases he
      | cons e' es =>
        rw [fg_cons] at hf
        rcases List.mem_cons.mp he with rfl | he
        · have h1 := hok t (by simp)
          have h2 := hf.1
          unfold fit1 at h2
          omega
        · exact ih es (fun t ht => hok t (by simp [ht])) hf.2 e he
  exact this ts es h.ok hf
theorem lev_bd : ∀ (es : List Ev) (x B : Int), (∀ e ∈ es, -8 ≤ e.2 ∧ e.2 ≤ 8) → 8 ≤ B → -B ≤ x → x ≤ B → ∀ y ∈ levT x es, -(B + 8 * es.length) ≤ y ∧ y ≤ B + 8 * es.length
  | [], x, B, _, _, h1, h2, y, hy => by
    have : y = x := by simpa [levT] using hy
    simp; omega
  | e :: es, x, B, he, hB, h1, h2, y, hy => by
    have h3 := he e (by simp)
    rcases List.mem_cons.mp hy with rfl | hy
    · simp; omega
    · have hb : -(B + 8) ≤ behT x e ∧ behT x e ≤ B + 8 := by
        rcases e with ⟨w, k⟩
        simp only at h3
        cases w <;> simp only [behT] <;> omega
      have := lev_bd es (behT x e) (B + 8) (fun e he' => he e (by simp [he'])) (by omega) hb.1 hb.2 y hy
      simp; omega
def lvAt (k : Nat) (p : Int × List Ev) : Int := ((levT p.1 p.2)[k]?).getD 0
def nmAt (k : Nat) (p : Int × List Ev) : Int := ((p.2)[k]?.map (·.2)).getD 0
theorem pairs_len {ts : List Tri} {a b : Int} {rs : List Rd} (hts : SmT ts) (hb : b ≤ a + 100) : (pairsT ts a b rs).length ≤ 100000 := by
  have h4 := hts.len
  have hr : (rowsT ts).length ≤ 81 := by
    have key : ∀ (ts : List Tri) (rows : List (List Ev)), (∀ t ∈ ts, t.l ≤ t.h ∧ t.h ≤ t.l + 2 ∧ -6 ≤ t.l ∧ t.l ≤ 6) → (ts.foldl rowStep rows).length ≤ rows.length * 3 ^ ts.length := by
      intro ts
      induction ts with
      | nil => intro rows _; simp
      | cons t ts ih =>
        intro rows h
        have ht := h t (by simp)
        rw [List.foldl_cons]
        refine Nat.le_trans (ih _ fun t ht => h t (by simp [ht])) ?_
        rw [row_len, List.length_cons, Nat.pow_succ, Nat.mul_assoc, Nat.mul_comm (3 ^ ts.length) 3]
        exact Nat.mul_le_mul_left _ (Nat.mul_le_mul_right _ (by omega))
    have := key ts [[]] hts.ok
    have h3 : (3 : Nat) ^ ts.length ≤ 3 ^ 4 := Nat.pow_le_pow_right (by omega) h4
    unfold rowsT
    simp at this
    omega
  refine Nat.le_trans (List.length_filter_le _ _) ?_
  rw [both_len, rng_len]
  have : (b + 1 - a).toNat ≤ 101 := by omega
  exact Nat.le_trans (Nat.mul_le_mul this hr) (by omega)
/-- levels and numbers of all pairs -/
theorem lots_lev {ts : List Tri} {a b : Int} {rs : List Rd} {ls ns : List S2} (hts : SmT ts) (hok : okRs ts.length rs) (ha : -1000 ≤ a) (hb : b ≤ a + 100) (hab : a ≤ 1000) (h : Lv ts (some a, some b) rs ls ns) :
    (∀ k, k < ts.length + 1 → Lot ((pairsT ts a b rs).map (lvAt k))) ∧ ((List.range (ts.length + 1)).map fun k => (pairsT ts a b rs).map (lvAt k)).map (fun l => D.tup [.int (minL l), .int (maxL l)]) = ls.map eS := by
  have hlen := pairs_len (rs := rs) hts hb
  obtain ⟨x0, es0, f0⟩ := h.ex
  have p0 : (x0, es0) ∈ pairsT ts a b rs := (mem_pairs hok _).mpr f0
  have key : ∀ k z, ls[k]? = some z → Lot ((pairsT ts a b rs).map (lvAt k)) ∧ eS z = .tup [.int (minL ((pairsT ts a b rs).map (lvAt k))), .int (maxL ((pairsT ts a b rs).map (lvAt k)))] := by
    intro k z hz
    have hk : k ≤ ts.length := by
      have := (List.getElem?_eq_some_iff.mp hz).1
      have := h.ll
      omega
    refine lot_of (fun y => ?_) (fun e => by rw [List.map_eq_nil_iff] at e; rw [e] at p0; cases p0) (by rw [List.length_map]; exact hlen) (fun y hy => ?_)
    · rw [(h.lv k z hz).2, List.mem_map]
      constructor
      · rintro ⟨x, es, f, e⟩
        exact ⟨(x, es), (mem_pairs hok _).mpr f, by simp [lvAt, e]⟩
      · rintro ⟨p, hp, rfl⟩
        have f := (mem_pairs hok p).mp hp
        obtain ⟨y, hy⟩ := lev_someE p.1 p.2 k (by rw [fit_len f.2]; exact hk)
        exact ⟨p.1, p.2, f, by simp [lvAt, hy]⟩
    · obtain ⟨p, hp, rfl⟩ := List.mem_map.mp hy
      have f := (mem_pairs hok p).mp hp
      have f2 := (fit_iff hok _ _).mp f
      obtain ⟨y, hy⟩ := lev_someE p.1 p.2 k (by rw [fit_len f.2]; exact hk)
      have h1 := f2.1
      rw [inS_ss] at h1
      have := lev_bd p.2 p.1 2000 (ev_bd hts f2.2.1) (by omega) (by omega) (by omega) y (List.mem_of_getElem? hy)
      have h4 := hts.len
      have h5 := fg_len f2.2.1
      simp only [lvAt, hy, Option.getD_some]
      omega
  refine ⟨fun k hk => ?_, ?_⟩
  · obtain ⟨z, hz⟩ : ∃ z, ls[k]? = some z := ⟨_, List.getElem?_eq_getElem (by rw [h.ll]; exact hk)⟩
    exact (key k z hz).1
  · apply List.ext_getElem (by simp [h.ll])
    intro k h1 h2
    have h2' : k < ls.length := by simpa using h2
    have := (key k _ (List.getElem?_eq_getElem h2')).2
    simp only [List.getElem_map, List.getElem_range]
    exact this.symm
theorem lots_num {ts : List Tri} {a b : Int} {rs : List Rd} {ls ns : List S2} (hts : SmT ts) (hok : okRs ts.length rs) (hb : b ≤ a + 100) (h : Lv ts (some a, some b) rs ls ns) :
    (∀ k, k < ts.length → Lot ((pairsT ts a b rs).map (nmAt k))) ∧ ((List.range ts.length).map fun k => (pairsT ts a b rs).map (nmAt k)).map (fun l => D.tup [.int (minL l), .int (maxL l)]) = ns.map eS := by
  have hlen := pairs_len (rs := rs) hts hb
  obtain ⟨x0, es0, f0⟩ := h.ex
  have p0 : (x0, es0) ∈ pairsT ts a b rs := (mem_pairs hok _).mpr f0
  have wd : ∀ (ts : List Tri) (es : List Ev), fgT ts es = true → ∀ (k : Nat) (t : Tri), ts[k]? = some t → ∃ v, es[k]? = some (t.w, v) := by
    intro ts
    induction ts with
    | nil => intro es _ k t e; simp at e
    | cons t' ts ih =>
      intro es hf k t e
      cases es with
      | nil => have := fg_len hf; simp at this
      | cons e' es =>
        rw [fg_cons] at hf
        cases k with
        | zero =>
          have e : t' = t := by simpa using e
          subst e
          rcases e' with ⟨w, v⟩
          have := hf.1.1
          simp only at this
          subst this
          exact ⟨v, rfl⟩
        | succ k =>
          obtain ⟨v, hv⟩ := ih es hf.2 k t (by simpa using e)
          exact ⟨v, by simpa using hv⟩
  have key : ∀ k z, ns[k]? = some z → Lot ((pairsT ts a b rs).map (nmAt k)) ∧ eS z = .tup [.int (minL ((pairsT ts a b rs).map (nmAt k))), .int (maxL ((pairsT ts a b rs).map (nmAt k)))] := by
    intro k z hz
    have hk : k < ts.length := by
      have := (List.getElem?_eq_some_iff.mp hz).1
      have := h.nl
      omega
    have ht : ts[k]? = some ts[k] := List.getElem?_eq_getElem hk
    refine lot_of (fun y => ?_) (fun e => by rw [List.map_eq_nil_iff] at e; rw [e] at p0; cases p0) (by rw [List.length_map]; exact hlen) (fun y hy => ?_)
    · rw [(h.nm k z _ hz ht).2, List.mem_map]
      constructor
      · rintro ⟨x, es, f, e⟩
        exact ⟨(x, es), (mem_pairs hok _).mpr f, by simp [nmAt, e]⟩
      · rintro ⟨p, hp, rfl⟩
        have f := (mem_pairs hok p).mp hp
        obtain ⟨v, hv⟩ := wd ts p.2 ((fit_iff hok _ _).mp f).2.1 k _ ht
        exact ⟨p.1, p.2, f, by simp [nmAt, hv]⟩
    · obtain ⟨p, hp, rfl⟩ := List.mem_map.mp hy
      have f := (mem_pairs hok p).mp hp
      have f2 := (fit_iff hok _ _).mp f
      obtain ⟨v, hv⟩ := wd ts p.2 f2.2.1 k _ ht
      have := ev_bd hts f2.2.1 _ (List.mem_of_getElem? hv)
      simp only [nmAt, hv, Option.map_some, Option.getD_some]
      simp only at this
      omega
  refine ⟨fun k hk => ?_, ?_⟩
  · obtain ⟨z, hz⟩ : ∃ z, ns[k]? = some z := ⟨_, List.getElem?_eq_getElem (by rw [h.nl]; exact hk)⟩
    exact (key k z hz).1
  · apply List.ext_getElem (by simp [h.nl])
    intro k h1 h2
    have h2' : k < ns.length := by simpa using h2
    have := (key k _ (List.getElem?_eq_getElem h2')).2
    simp only [List.getElem_map, List.getElem_range]
    exact this.symm
/-! ### equality of the pairs -/
theorem layL_map {α : Type} (n : Nat) (f : α → D) (h : ∀ a, D.lay n (f a) = true) (l : List α) : D.layL n (l.map f) = true := by
  induction l with
  | nil => rfl
  | cons a l ih => simp [h a, ih]
theorem smL_map {α : Type} (n : Nat) (f : α → D) (h : ∀ a, sm n (f a) = true) (l : List α) : smL n (l.map f) = true := by
  induction l with
  | nil => rfl
  | cons a l ih => simp [smL, h a, ih]
theorem lay_eE (n : Nat) (e : Ev) : D.lay (n + 1) (eE e) = true := by simp [eE]
theorem lay_eRow (n : Nat) (es : List Ev) : D.lay (n + 2) (eRow es) = true := by simpa [eRow] using layL_map (n + 1) eE (lay_eE n) es
theorem lay_eP (n : Nat) (p : Int × List Ev) : D.lay (n + 3) (eP p) = true := by simp [eP, lay_eRow]
theorem eqv_eE (a b : Ev) : D.eqv (eE a) (eE b) = decide (a = b) := by
  rcases a with ⟨w, k⟩
  rcases b with ⟨v, m⟩
  by_cases h1 : w = v <;> by_cases h2 : k = m <;> simp [eE, h1, h2]
theorem eqvL_map {α : Type} [DecidableEq α] (f : α → D) (h : ∀ a b, D.eqv (f a) (f b) = decide (a = b)) : ∀ l m : List α, D.eqvL (l.map f) (m.map f) = decide (l = m)
  | [], [] => by simp
  | [], _ :: _ => by simp
  | _ :: _, [] => by simp
  | a :: l, b :: m => by
    have ih := eqvL_map f h l m
    simp only [List.map_cons, D.eqvL, h, ih]
    by_cases h1 : a = b <;> by_cases h2 : l = m <;> simp [h1, h2]
theorem eqv_eP (p q : Int × List Ev) : D.eqv (eP p) (eP q) = decide (p = q) := by
  rcases p with ⟨x, es⟩
  rcases q with ⟨y, fs⟩
  have := eqvL_map eE eqv_eE es fs
  simp only [eP, eRow, D.eqv, D.eqvL, this]
  by_cases h1 : x = y <;> by_cases h2 : es = fs <;> simp [h1, h2]
theorem any_eP (P : List (Int × List Ev)) (q : Int × List Ev) : ((P.map eP).any fun z => D.eqv z (eP q)) = decide (q ∈ P) := by
  induction P with
  | nil => rfl
  | cons p P ih =>
    rw [List.map_cons, List.any_cons, ih, eqv_eP]
    by_cases h1 : p = q
    · subst h1; simp
    · have h2 : ¬ q = p := fun z => h1 z.symm
      by_cases h3 : q ∈ P <;> simp [h1, h2, h3]
theorem sm_eS (n : Nat) (s : S2) : sm (n + 1) (eS s) = true := by
  rcases s with ⟨_ | a, _ | b⟩ <;> simp [eS, sm, smL]
theorem sm_eI (n : Nat) (s : Option Int) : sm n (eI s) = true := by
  cases s <;> simp [sm]
theorem sm_ls (n : Nat) (ls : List S2) (h : ls.length ≤ 1000000) : sm (n + 2) (.lst (ls.map eS)) = true := by
  simp [sm, smL_map (n + 1) eS (sm_eS n) ls, h]
theorem sm_eN (n : Nat) (l : List Nat) (h : l.length ≤ 1000000) : sm (n + 1) (.tup (eN l)) = true := by
  have := smL_map n (fun (i : Nat) => D.int i) (fun a => by simp [sm]) l
  simp [sm, eN, this, h]
end RF.L
set_option maxRecDepth 100000
set_option maxHeartbeats 4000000
namespace RF.L
open PySem RF RF.C
/-! ### _law_all_told -/
abbrev v (d : D) : Option SV := some (.val d)
def eG (ts : List Tri) : D := .tup (ts.map eT)
def eQ (rs : List Rd) : D := .tup (rs.map eR)
theorem isG' (ts : List Tri) : IsQ IsT (eG ts) ts := isG ts
theorem isR' (rs : List Rd) : IsQ IsR (eQ rs) rs := isR rs
theorem len_eG (ts : List Tri) : O.len [eG ts] = some (.v (.int (ts.length : Nat))) := by simp [eG]
theorem len_eQ (ts : List Rd) : O.len [eQ ts] = some (.v (.int (ts.length : Nat))) := by simp [eQ]
/-- the loop down through the moments -/
theorem bad_loop (dg d0 ds4 d5 d6 d7 d8 : Option SV) {ts : List Tri} {rs : List Rd} (hts : SmT ts) (hok : okRs ts.length rs) (hlr : rs.length < 60) {a b : Int} (ha : -1000 ≤ a) (hb : b ≤ a + 100) (hab : a ≤ 1000) (hle : a ≤ b) : ∀ (ms : List Int) (o : Option Int) (j10 : Option SV), frB j10 = true → ∃ k10,
    C.loop (C.gname 10) (C.ifS (C.tv (C.bin O.eq (C.ucallM [] d__law_pairs (C.acons (C.var 1) (C.acons (C.var 2) (C.acons (C.lc (C.iter (C.var 3)) (C.gname 18) (C.tv (C.bin O.le (C.bin O.ix (C.var 18) (C.const (.int (0)))) (C.var 10))) (C.var 18) [18]) C.anil)))) (C.lst C.anil))) (C.set 9 (C.var 10)) C.pass) (ms.map D.int)
      [d0, v (eG ts), v (eS (some a, some b)), v (eQ rs), ds4, d5, d6, d7, d8, v (eI o), j10, none, none, none, none, none, none, none, none, none, none, none, none, none, none] = .nx [d0, v (eG ts), v (eS (some a, some b)), v (eQ rs), ds4, d5, d6, d7, d8, v (eI (badT ts a b rs ms o)), k10, none, none, none, none, none, none, none, none, none, none, none, none, none, none]
  | [], o, j10, _ => ⟨j10, rfl⟩
  | m :: ms, o, j10, h => by
    have hp := t_pairs (.inr rfl) hts (is2_to eR (fun _ => .inl rfl) (leT rs m)) (okRs_sub hok le_sub) (by have := List.length_filter_le (fun r : Rd => decide (r.1 ≤ m)) rs; unfold leT; omega) ha hb hab hle
    have lc : C.lc (C.iter (C.var 3)) (C.gname 18) (C.tv (C.bin O.le (C.bin O.ix (C.var 18) (C.const (.int (0)))) (C.var 10))) (C.var 18) [18] [d0, v (eG ts), v (eS (some a, some b)), v (eQ rs), ds4, d5, d6, d7, d8, v (eI o), v (.int m), none, none, none, none, none, none, none, none, none, none, none, none, none, none] = .ok (.n (.lst ((leT rs m).map eR))) [d0, v (eG ts), v (eS (some a, some b)), v (eQ rs), ds4, d5, d6, d7, d8, v (eI o), v (.int m), none, none, none, none, none, none, none, none, none, none, none, none, none, none] :=
      lc_is (P := fun d (r : Rd) => d = eR r) (sl1 := [d0, v (eG ts), v (eS (some a, some b)), v (eQ rs), ds4, d5, d6, d7, d8, v (eI o), v (.int m), none, none, none, none, none, none, none, none, none, none, none, none, none, none]) (as := rs) (fun r => decide (r.1 ≤ m)) eR (ds := rs.map eR) (by simp [eQ]) (is2_map _ _) (by rw [List.length_map]; omega) (fun d r hd _ => by
        subst hd
        exact ⟨[d0, v (eG ts), v (eS (some a, some b)), v (eQ rs), ds4, d5, d6, d7, d8, v (eI o), v (.int m), none, none, none, none, none, none, none, v (eR r), none, none, none, none, none, none], by simp, by simp [eR], rfl, fun _ => ⟨.v (eR r), [d0, v (eG ts), v (eS (some a, some b)), v (eQ rs), ds4, d5, d6, d7, d8, v (eI o), v (.int m), none, none, none, none, none, none, none, v (eR r), none, none, none, none, none, none], [d0, v (eG ts), v (eS (some a, some b)), v (eQ rs), ds4, d5, d6, d7, d8, v (eI o), v (.int m), none, none, none, none, none, none, none, v (eR r), none, none, none, none, none, none], by simp, rfl, rfl⟩⟩)
    have hlay : D.layL 8 ((pairsT ts a b (leT rs m)).map eP) = true := layL_map 8 eP (lay_eP 5) _
    have hem := eqvL_nil ((pairsT ts a b (leT rs m)).map eP)
    rw [List.map_cons, loop_cons]
    have hp : d__law_pairs [.val (eG ts), .val (eS (some a, some b)), .val (.lst ((leT rs m).map eR))] = _ := hp
    by_cases q : pairsT ts a b (leT rs m) = []
    · obtain ⟨k10, q2⟩ := bad_loop dg d0 ds4 d5 d6 d7 d8 hts hok hlr ha hb hab hle ms (some m) (v (.int m)) rfl
      refine ⟨k10, ?_⟩
      unfold badT
      rw [if_pos q, ← q2]
      rw [q] at hp
      simp [-free?, ev_free, h, lc, hp]
    · obtain ⟨k10, q2⟩ := bad_loop dg d0 ds4 d5 d6 d7 d8 hts hok hlr ha hb hab hle ms o (v (.int m)) rfl
      refine ⟨k10, ?_⟩
      unfold badT
      rw [if_neg q, ← q2]
      have q3 : ((pairsT ts a b (leT rs m)).map eP).isEmpty = false := by
        rw [List.isEmpty_eq_false_iff]; simpa using q
      rw [q3] at hem
      simp [-free?, ev_free, h, lc, hp, hlay, hem]
theorem all_told_Y {n : Nat} {u : List D} (hu : Urn n u) (hn : n < 900000) {ts : List Tri} {rs : List Rd} (hts : SmT ts) (hok : okRs ts.length rs) (hlr : rs.length < 60) {a b : Int} (ha : -1000 ≤ a) (hb : b ≤ a + 100) (hab : a ≤ 1000) (hle : a ≤ b)
    {s1 s2 : Int × List Ev} (hs1 : s1.2.length < 1000) (hs2 : s2.2.length < 1000) (hf : ∃ x es, Fit ts (some a, some b) rs x es) : ∃ u', Urn (n + 2) u' ∧ d__law_all_told [.bref (.lst u), .val (eG ts), .val (eS (some a, some b)), .val (eQ rs), .val (.lst [eP s1, eP s2])] = .ok (.v (.bl true)) [some (.bref (.lst u')), v (eG ts), v (eS (some a, some b)), v (eQ rs), v (.lst [eP s1, eP s2])] := by
  have h4 := hts.len
  have hs : okS (some a, some b) = true := by simpa [okS] using hle
  obtain ⟨ls, ns, x, es, T⟩ := toldY hts.okTs hs hok (by omega) hlr hf
  have T0 := T (eG ts) (eQ rs) (isG' ts) (isR' rs)
  obtain ⟨u1, dg, hu1, hdg, sg⟩ := t_softG hu (by omega) ts (by omega)
  obtain ⟨u2, dr, hu2, hdr, sr⟩ := t_softR hu1 (by omega) rs (by omega)
  have sg : SoftR u1 (eG ts) dg (d__law_soft [.bref (.lst u), .val (eG ts)]) := sg
  have sr : SoftR u2 (eQ rs) dr (d__law_soft [.bref (.lst u1), .val (eQ rs)]) := sr
  have T1 := T dg (eQ rs) hdg (isR' rs)
  have T2 := T (eG ts) dr (isG' ts) hdr
  have lG := len_eG ts
  have hp : d__law_pairs [.val (eG ts), .val (eS (some a, some b)), .val (eQ rs)] = Rn ((pairsT ts a b rs).map eP) [eG ts, eS (some a, some b), eQ rs] := t_pairs (.inl rfl) hts (is2_to eR (fun _ => .inl rfl) rs) hok hlr ha hb hab hle
  refine ⟨u2, hu2, ?_⟩
  refine good_body [eG ts, eS (some a, some b), eQ rs, .lst [eP s1, eP s2]] rfl ?_
  show Good u2 (b__law_all_told [some (.bref (.lst u)), v (eG ts), v (eS (some a, some b)), v (eQ rs), v (.lst [eP s1, eP s2]), none, none, none, none, none, none, none, none, none, none, none, none, none, none, none, none, none, none, none, none])
  unfold b__law_all_told
  refine gd (by simp [hp]; rfl) ?_
  refine gd (by simp [lG]; rfl) ?_
  refine gd (by
    rcases sg with h | ⟨l, e, h⟩
    · simp [h, T1.go]; rfl
    · have h2 := T1.go
      rw [e] at h2
      simp [h, h2]) ?_
  refine gd (by
    rcases sr with h | ⟨l, e, h⟩
    · simp [h, T2.lev, T0.num, T0.set]; rfl
    · have h2 := T2.lev
      rw [e] at h2
      simp [h, h2, T0.num, T0.set]) ?_
  refine gd (by simp [T0.nd]; rfl) ?_
  have hPne : pairsT ts a b rs ≠ [] := fun e => by
    obtain ⟨x, es, f⟩ := hf
    exact (pairs_nil hok).mp e x es f
  generalize hPP : pairsT ts a b rs = P at hp hPne
  have hlay : D.layL 8 (P.map eP) = true := layL_map 8 eP (lay_eP 5) _
  have hem : D.eqvL (P.map eP) [] = false := by
    rw [eqvL_nil, List.isEmpty_eq_false_iff]; simpa using hPne
  have hsame : ∀ d, sm 7 d = true → d__law_same 8 [.val d, .val d] = R (.bl true) [d, d] := fun d h => t_same 7 d h
  have hs5 := hsame (.lst [.bl false, .bl false, .bl false, .bl false, .bl false]) (by simp [sm, smL])
  have hrep : (List.replicate (Int.toNat 5) [D.bl false]).flatten = [.bl false, .bl false, .bl false, .bl false, .bl false] := rfl
  have hin : ((P.map eP).any fun z => D.eqv z (.tup [.int x, eRow es])) = true := by
    have := any_eP P (x, es)
    have q : (x, es) ∈ P := by rw [← hPP]; exact (mem_pairs hok _).mpr T0.fit
    rw [decide_eq_true q] at this
    exact this
  have hl1 : D.lay 8 (eRow es) = true := lay_eRow 6 es
  refine gd (nxF (by simp [hlay, hem, hs5, hrep, hin, hl1, -List.any_map, -List.any_eq_true]; rfl) rfl) ?_
  refine gd (by simp; rfl) ?_
  obtain ⟨o, hfw, hfwe⟩ := fw_ok (isG' ts) (isR' rs) hts.okTs hs hok (by omega) (by omega)
  obtain ⟨k10, bl⟩ := bad_loop none (some (.bref (.lst u2))) (v (.lst [eP s1, eP s2])) (some (.own (.lst (P.map eP)))) (v (.int (ts.length : Nat))) (v (.tup [.int x, eRow es])) (v (.lst [.bl false, .bl false, .bl false, .bl false, .bl false])) hts hok hlr ha hb hab hle ((List.range (ts.length + 1)).map fun (i : Nat) => (((ts.length + 1 : Nat) : Int) - 1 + (i : Int) * -1)) none none rfl
  have hbad := FW.one hfw (bad_fw hts.okTs hs hok (ts.length + 1) none (.inr ⟨rfl, rfl⟩))
  rw [← hbad] at bl
  have hms : rangeDC (ts.length : Nat) (-1) (((ts.length : Nat) : Int) - -1).toNat = (((List.range (ts.length + 1)).map fun (i : Nat) => (((ts.length + 1 : Nat) : Int) - 1 + (i : Int) * -1))).map D.int := by
    unfold rangeDC
    rw [List.map_map, show (((ts.length : Nat) : Int) - -1).toNat = ts.length + 1 by omega]
    apply List.map_congr_left
    intro i _
    simp only [Function.comp]
    congr 1
    omega
  have hit : C.iterA W.range3 (C.acons (C.var 6) (C.acons (C.un O.neg (C.const (.int (1)))) (C.acons (C.un O.neg (C.const (.int (1)))) C.anil))) [some (.bref (.lst u2)), v (eG ts), v (eS (some a, some b)), v (eQ rs), v (.lst [eP s1, eP s2]), some (.own (.lst (P.map eP))), v (.int (ts.length : Nat)), v (.tup [.int x, eRow es]), v (.lst [.bl false, .bl false, .bl false, .bl false, .bl false]), v .non, none, none, none, none, none, none, none, none, none, none, none, none, none, none, none] = .ok ((((List.range (ts.length + 1)).map fun (i : Nat) => (((ts.length + 1 : Nat) : Int) - 1 + (i : Int) * -1))).map D.int) [some (.bref (.lst u2)), v (eG ts), v (eS (some a, some b)), v (eQ rs), v (.lst [eP s1, eP s2]), some (.own (.lst (P.map eP))), v (.int (ts.length : Nat)), v (.tup [.int x, eRow es]), v (.lst [.bl false, .bl false, .bl false, .bl false, .bl false]), v .non, none, none, none, none, none, none, none, none, none, none, none, none, none, none, none] := by
    rw [← hms]
    exact it_range3 (by omega) rfl
  refine gd (sl1 := [some (.bref (.lst u2)), v (eG ts), v (eS (some a, some b)), v (eQ rs), v (.lst [eP s1, eP s2]), some (.own (.lst (P.map eP))), v (.int (ts.length : Nat)), v (.tup [.int x, eRow es]), v (.lst [.bl false, .bl false, .bl false, .bl false, .bl false]), v (eI o), k10, none, none, none, none, none, none, none, none, none, none, none, none, none, none]) (forS_of hit bl) ?_
  have hso := hsame (eI o) (sm_eI _ _)
  refine gd (nxF (by simp [hfwe, hso]; rfl) rfl) ?_
  have gw : ∀ s : Int × List Ev, s.2.length < 1000 → d_goes_with [.val (eG ts), .val (eS (some a, some b)), .val (eQ rs), .val (eP s)] = R (.bl (decide (s ∈ P))) [eG ts, eS (some a, some b), eQ rs, eP s] := fun s hl => by
    have h1 := t_gw (is2_to eT (fun _ => .inl rfl) ts) (is2_to eR (fun _ => .inl rfl) rs) (some a, some b) s.1 s.2 hok (by omega) hl hlr
    have h2 : gwB ts (some a, some b) rs s.1 s.2 = decide (s ∈ P) := by
      rw [Bool.eq_iff_iff, gw_iff hok, decide_eq_true_eq, ← hPP, mem_pairs hok]
    rw [h2] at h1
    exact h1
  have g1 := gw s1 hs1
  have g2 := gw s2 hs2
  have gl : d_goes_with [.val (eG ts), .val (eS (some a, some b)), .val (eQ rs), .val (.lst [.int s1.1, eRow s1.2])] = _ := t_gwL _ _ _ _
  have hlist : O.list [eP s1] = some (.n (.lst [.int s1.1, eRow s1.2])) := rfl
  refine gd (sl1 := [some (.bref (.lst u2)), v (eG ts), v (eS (some a, some b)), v (eQ rs), v (.lst [eP s1, eP s2]), some (.own (.lst (P.map eP))), v (.int (ts.length : Nat)), v (.tup [.int x, eRow es]), some (.own (.lst [.bl (decide (s1 ∈ P)), .bl (decide (s2 ∈ P)), .bl false])), v (eI o), k10, none, none, none, none, none, none, none, none, none, none, none, none, none, none]) (by simp [ev_lc, lcrun_cons, g1, g2, gl, hlist, -O.list]) ?_
  have a1 := any_eP P s1
  have a2 := any_eP P s2
  have y1 := lay_eP 6 s1
  have y2 := lay_eP 6 s2
  have hs3 := hsame (.lst [.bl (decide (s1 ∈ P)), .bl (decide (s2 ∈ P)), .bl false]) (by simp [sm, smL])
  refine gd (nxF (sl1 := [some (.bref (.lst u2)), v (eG ts), v (eS (some a, some b)), v (eQ rs), v (.lst [eP s1, eP s2]), some (.own (.lst (P.map eP))), v (.int (ts.length : Nat)), v (.tup [.int x, eRow es]), v (.lst [.bl (decide (s1 ∈ P)), .bl (decide (s2 ∈ P)), .bl false]), v (eI o), k10, none, none, none, none, none, none, none, none, none, none, none, none, none, none]) (by simp [ev_lc, lcrun_cons, a1, a2, y1, y2, hlay, hs3, -List.any_map, -List.any_eq_true]) rfl) ?_
  refine gd (nxF (sl1 := [some (.bref (.lst u2)), v (eG ts), v (eS (some a, some b)), v (eQ rs), v (.lst [eP s1, eP s2]), some (.own (.lst (P.map eP))), v (.int (ts.length : Nat)), v (.tup [.int x, eRow es]), v (.lst [.bl (decide (s1 ∈ P)), .bl (decide (s2 ∈ P)), .bl false]), v (eI o), k10, none, none, none, none, none, none, none, none, none, none, none, none, none, none]) (by simp [hlay, hem]) rfl) ?_
  have hPl : ∀ p ∈ P, p.2.length = ts.length ∧ ∀ k, k ≤ ts.length → ∃ y, (levT p.1 p.2)[k]? = some y := fun p hp => by
    rw [← hPP] at hp
    have f := (mem_pairs hok p).mp hp
    exact ⟨fit_len f.2, fun k hk => lev_someE p.1 p.2 k (by rw [fit_len f.2]; exact hk)⟩
  have hPn : P.length ≤ 100000 := by rw [← hPP]; exact pairs_len hts hb
  have lc13 : C.lc (C.iter (C.var 5)) (C.gtup 2 (C.gcons (C.gname 19) (C.gcons (C.gname 20) C.gnil))) C.tyes (C.ucallM [] d__law_levels (C.acons (C.var 20) (C.acons (C.var 19) C.anil))) [19, 20] [some (.bref (.lst u2)), v (eG ts), v (eS (some a, some b)), v (eQ rs), v (.lst [eP s1, eP s2]), some (.own (.lst (P.map eP))), v (.int (ts.length : Nat)), v (.tup [.int x, eRow es]), v (.lst [.bl (decide (s1 ∈ P)), .bl (decide (s2 ∈ P)), .bl false]), v (eI o), k10, none, none, none, none, none, none, none, none, none, none, none, none, none, none] = .ok (.n (.lst (P.map fun p => eL (levT p.1 p.2)))) [some (.bref (.lst u2)), v (eG ts), v (eS (some a, some b)), v (eQ rs), v (.lst [eP s1, eP s2]), v (.lst (P.map eP)), v (.int (ts.length : Nat)), v (.tup [.int x, eRow es]), v (.lst [.bl (decide (s1 ∈ P)), .bl (decide (s2 ∈ P)), .bl false]), v (eI o), k10, none, none, none, none, none, none, none, none, none, none, none, none, none, none] := by
    have := lc_is (P := fun d (p : Int × List Ev) => d = eP p) (it := C.iter (C.var 5)) (g := C.gtup 2 (C.gcons (C.gname 19) (C.gcons (C.gname 20) C.gnil))) (t := C.tyes) (e := C.ucallM [] d__law_levels (C.acons (C.var 20) (C.acons (C.var 19) C.anil))) (vs := [19, 20])
      (sl := [some (.bref (.lst u2)), v (eG ts), v (eS (some a, some b)), v (eQ rs), v (.lst [eP s1, eP s2]), some (.own (.lst (P.map eP))), v (.int (ts.length : Nat)), v (.tup [.int x, eRow es]), v (.lst [.bl (decide (s1 ∈ P)), .bl (decide (s2 ∈ P)), .bl false]), v (eI o), k10, none, none, none, none, none, none, none, none, none, none, none, none, none, none]) (sl1 := [some (.bref (.lst u2)), v (eG ts), v (eS (some a, some b)), v (eQ rs), v (.lst [eP s1, eP s2]), v (.lst (P.map eP)), v (.int (ts.length : Nat)), v (.tup [.int x, eRow es]), v (.lst [.bl (decide (s1 ∈ P)), .bl (decide (s2 ∈ P)), .bl false]), v (eI o), k10, none, none, none, none, none, none, none, none, none, none, none, none, none, none]) (as := P) (fun _ => true) (fun p => eL (levT p.1 p.2)) (ds := P.map eP) (by simp) (is2_map _ _) (by rw [List.length_map]; omega) (fun d p hd hp => by
        subst hd
        have hlv := t_levelsB p.2 p.1 (by rw [(hPl p hp).1]; omega)
        exact ⟨[some (.bref (.lst u2)), v (eG ts), v (eS (some a, some b)), v (eQ rs), v (.lst [eP s1, eP s2]), v (.lst (P.map eP)), v (.int (ts.length : Nat)), v (.tup [.int x, eRow es]), v (.lst [.bl (decide (s1 ∈ P)), .bl (decide (s2 ∈ P)), .bl false]), v (eI o), k10, none, none, none, none, none, none, none, none, v (.int p.1), v (eRow p.2), none, none, none, none], by simp [eP], rfl, rfl, fun _ => ⟨.n (.lst ((levT p.1 p.2).map D.int)), [some (.bref (.lst u2)), v (eG ts), v (eS (some a, some b)), v (eQ rs), v (.lst [eP s1, eP s2]), v (.lst (P.map eP)), v (.int (ts.length : Nat)), v (.tup [.int x, eRow es]), v (.lst [.bl (decide (s1 ∈ P)), .bl (decide (s2 ∈ P)), .bl false]), v (eI o), k10, none, none, none, none, none, none, none, none, v (.int p.1), v (eRow p.2), none, none, none, none], [some (.bref (.lst u2)), v (eG ts), v (eS (some a, some b)), v (eQ rs), v (.lst [eP s1, eP s2]), v (.lst (P.map eP)), v (.int (ts.length : Nat)), v (.tup [.int x, eRow es]), v (.lst [.bl (decide (s1 ∈ P)), .bl (decide (s2 ∈ P)), .bl false]), v (eI o), k10, none, none, none, none, none, none, none, none, v (.int p.1), v (eRow p.2), none, none, none, none], by simp [hlv], rfl, rfl⟩⟩)
    rw [filter_yes] at this
    exact this
  refine gd (sl1 := [some (.bref (.lst u2)), v (eG ts), v (eS (some a, some b)), v (eQ rs), v (.lst [eP s1, eP s2]), v (.lst (P.map eP)), v (.int (ts.length : Nat)), v (.tup [.int x, eRow es]), v (.lst [.bl (decide (s1 ∈ P)), .bl (decide (s2 ∈ P)), .bl false]), v (eI o), k10, some (.own (.lst (P.map fun p => eL (levT p.1 p.2)))), none, none, none, none, none, none, none, none, none, none, none, none, none]) (by simp [lc13]) ?_
  have hr14 := lots_lev hts hok ha hb hab T0.lv
  rw [hPP] at hr14
  have rng14 : rangeD 0 (((ts.length : Nat) : Int) + 1).toNat = (List.range (ts.length + 1)).map fun (k : Nat) => D.int k := by
    unfold rangeD
    rw [show (((ts.length : Nat) : Int) + 1).toNat = ts.length + 1 by omega]
    apply List.map_congr_left
    intro i _
    simp
  have rng15 : rangeD 0 (((ts.length : Nat) : Int)).toNat = (List.range (ts.length)).map fun (k : Nat) => D.int k := by
    unfold rangeD
    rw [show (((ts.length : Nat) : Int)).toNat = ts.length by omega]
    apply List.map_congr_left
    intro i _
    simp
  have in14 : ∀ (k : Nat), k ≤ ts.length → ∀ st, (st = [some (.bref (.lst u2)), v (eG ts), v (eS (some a, some b)), v (eQ rs), v (.lst [eP s1, eP s2]), v (.lst (P.map eP)), v (.int (ts.length : Nat)), v (.tup [.int x, eRow es]), v (.lst [.bl (decide (s1 ∈ P)), .bl (decide (s2 ∈ P)), .bl false]), v (eI o), k10, some (.own (.lst (P.map fun p => eL (levT p.1 p.2)))), none, none, none, none, none, none, none, none, none, v (.int k), none, none, none] ∨ st = [some (.bref (.lst u2)), v (eG ts), v (eS (some a, some b)), v (eQ rs), v (.lst [eP s1, eP s2]), v (.lst (P.map eP)), v (.int (ts.length : Nat)), v (.tup [.int x, eRow es]), v (.lst [.bl (decide (s1 ∈ P)), .bl (decide (s2 ∈ P)), .bl false]), v (eI o), k10, v (.lst (P.map fun p => eL (levT p.1 p.2))), none, none, none, none, none, none, none, none, none, v (.int k), none, none, none]) → C.lc (C.iter (C.var 11)) (C.gname 22) C.tyes (C.bin O.ix (C.var 22) (C.var 21)) [22] st = .ok (.n (.lst ((P.map (lvAt k)).map D.int))) [some (.bref (.lst u2)), v (eG ts), v (eS (some a, some b)), v (eQ rs), v (.lst [eP s1, eP s2]), v (.lst (P.map eP)), v (.int (ts.length : Nat)), v (.tup [.int x, eRow es]), v (.lst [.bl (decide (s1 ∈ P)), .bl (decide (s2 ∈ P)), .bl false]), v (eI o), k10, v (.lst (P.map fun p => eL (levT p.1 p.2))), none, none, none, none, none, none, none, none, none, v (.int k), none, none, none] := by
    intro k hk st hst
    have := lc_is (P := fun d (p : Int × List Ev) => d = eL (levT p.1 p.2)) (it := C.iter (C.var 11)) (g := C.gname 22) (t := C.tyes) (e := C.bin O.ix (C.var 22) (C.var 21)) (vs := [22])
      (sl := st) (sl1 := [some (.bref (.lst u2)), v (eG ts), v (eS (some a, some b)), v (eQ rs), v (.lst [eP s1, eP s2]), v (.lst (P.map eP)), v (.int (ts.length : Nat)), v (.tup [.int x, eRow es]), v (.lst [.bl (decide (s1 ∈ P)), .bl (decide (s2 ∈ P)), .bl false]), v (eI o), k10, v (.lst (P.map fun p => eL (levT p.1 p.2))), none, none, none, none, none, none, none, none, none, v (.int k), none, none, none]) (as := P) (fun _ => true) (fun p => .int (lvAt k p)) (ds := P.map fun p => eL (levT p.1 p.2)) (by rcases hst with rfl | rfl <;> simp) (is2_map _ _) (by rw [List.length_map]; omega) (fun d p hd hp => by
        subst hd
        obtain ⟨y, hy⟩ := (hPl p hp).2 k hk
        have hix : atD ((levT p.1 p.2).map D.int) ((k : Nat) : Int) = some (.int (lvAt k p)) := by
          rw [atD_nat, List.getElem?_map, hy]
          simp [lvAt, hy]
        exact ⟨[some (.bref (.lst u2)), v (eG ts), v (eS (some a, some b)), v (eQ rs), v (.lst [eP s1, eP s2]), v (.lst (P.map eP)), v (.int (ts.length : Nat)), v (.tup [.int x, eRow es]), v (.lst [.bl (decide (s1 ∈ P)), .bl (decide (s2 ∈ P)), .bl false]), v (eI o), k10, v (.lst (P.map fun p => eL (levT p.1 p.2))), none, none, none, none, none, none, none, none, none, v (.int k), v (eL (levT p.1 p.2)), none, none], by simp, rfl, rfl, fun _ => ⟨.v (.int (lvAt k p)), [some (.bref (.lst u2)), v (eG ts), v (eS (some a, some b)), v (eQ rs), v (.lst [eP s1, eP s2]), v (.lst (P.map eP)), v (.int (ts.length : Nat)), v (.tup [.int x, eRow es]), v (.lst [.bl (decide (s1 ∈ P)), .bl (decide (s2 ∈ P)), .bl false]), v (eI o), k10, v (.lst (P.map fun p => eL (levT p.1 p.2))), none, none, none, none, none, none, none, none, none, v (.int k), v (eL (levT p.1 p.2)), none, none], [some (.bref (.lst u2)), v (eG ts), v (eS (some a, some b)), v (eQ rs), v (.lst [eP s1, eP s2]), v (.lst (P.map eP)), v (.int (ts.length : Nat)), v (.tup [.int x, eRow es]), v (.lst [.bl (decide (s1 ∈ P)), .bl (decide (s2 ∈ P)), .bl false]), v (eI o), k10, v (.lst (P.map fun p => eL (levT p.1 p.2))), none, none, none, none, none, none, none, none, none, v (.int k), v (eL (levT p.1 p.2)), none, none], by simp [eL, hix], rfl, rfl⟩⟩)
    rw [filter_yes] at this
    rw [this, List.map_map]
    rfl
  have lc14 : C.lc (C.iterA W.range1 (C.acons (C.bin O.add (C.var 6) (C.const (.int (1)))) C.anil)) (C.gname 21) C.tyes (C.lc (C.iter (C.var 11)) (C.gname 22) C.tyes (C.bin O.ix (C.var 22) (C.var 21)) [22]) [21] [some (.bref (.lst u2)), v (eG ts), v (eS (some a, some b)), v (eQ rs), v (.lst [eP s1, eP s2]), v (.lst (P.map eP)), v (.int (ts.length : Nat)), v (.tup [.int x, eRow es]), v (.lst [.bl (decide (s1 ∈ P)), .bl (decide (s2 ∈ P)), .bl false]), v (eI o), k10, some (.own (.lst (P.map fun p => eL (levT p.1 p.2)))), none, none, none, none, none, none, none, none, none, none, none, none, none] = .ok (.n (.lst (((List.range (ts.length + 1)).map fun k => P.map (lvAt k)).map eL))) [some (.bref (.lst u2)), v (eG ts), v (eS (some a, some b)), v (eQ rs), v (.lst [eP s1, eP s2]), v (.lst (P.map eP)), v (.int (ts.length : Nat)), v (.tup [.int x, eRow es]), v (.lst [.bl (decide (s1 ∈ P)), .bl (decide (s2 ∈ P)), .bl false]), v (eI o), k10, v (.lst (P.map fun p => eL (levT p.1 p.2))), none, none, none, none, none, none, none, none, none, none, none, none, none] := by
    have := lc_two (P := fun d (k : Nat) => d = .int k) (it := C.iterA W.range1 (C.acons (C.bin O.add (C.var 6) (C.const (.int (1)))) C.anil)) (g := C.gname 21) (t := C.tyes) (e := C.lc (C.iter (C.var 11)) (C.gname 22) C.tyes (C.bin O.ix (C.var 22) (C.var 21)) [22]) (vs := [21])
      (sl := [some (.bref (.lst u2)), v (eG ts), v (eS (some a, some b)), v (eQ rs), v (.lst [eP s1, eP s2]), v (.lst (P.map eP)), v (.int (ts.length : Nat)), v (.tup [.int x, eRow es]), v (.lst [.bl (decide (s1 ∈ P)), .bl (decide (s2 ∈ P)), .bl false]), v (eI o), k10, some (.own (.lst (P.map fun p => eL (levT p.1 p.2)))), none, none, none, none, none, none, none, none, none, none, none, none, none]) (slA := [some (.bref (.lst u2)), v (eG ts), v (eS (some a, some b)), v (eQ rs), v (.lst [eP s1, eP s2]), v (.lst (P.map eP)), v (.int (ts.length : Nat)), v (.tup [.int x, eRow es]), v (.lst [.bl (decide (s1 ∈ P)), .bl (decide (s2 ∈ P)), .bl false]), v (eI o), k10, some (.own (.lst (P.map fun p => eL (levT p.1 p.2)))), none, none, none, none, none, none, none, none, none, none, none, none, none]) (slB := [some (.bref (.lst u2)), v (eG ts), v (eS (some a, some b)), v (eQ rs), v (.lst [eP s1, eP s2]), v (.lst (P.map eP)), v (.int (ts.length : Nat)), v (.tup [.int x, eRow es]), v (.lst [.bl (decide (s1 ∈ P)), .bl (decide (s2 ∈ P)), .bl false]), v (eI o), k10, v (.lst (P.map fun p => eL (levT p.1 p.2))), none, none, none, none, none, none, none, none, none, none, none, none, none]) (as := List.range (ts.length + 1)) (fun _ => true) (fun k => eL (P.map (lvAt k))) (ds := (List.range (ts.length + 1)).map fun (k : Nat) => D.int k) (by rw [← rng14]; exact it_range1p (by omega) rfl) (is2_map _ _) (by rw [List.length_map, List.length_range]; omega) (by simp) (fun sl' hw => by
        rw [hw]; rfl) (fun d k st hd hk hst => by
        subst hd
        have hk := List.mem_range.mp hk
        rcases hst with rfl | rfl
        · exact ⟨[some (.bref (.lst u2)), v (eG ts), v (eS (some a, some b)), v (eQ rs), v (.lst [eP s1, eP s2]), v (.lst (P.map eP)), v (.int (ts.length : Nat)), v (.tup [.int x, eRow es]), v (.lst [.bl (decide (s1 ∈ P)), .bl (decide (s2 ∈ P)), .bl false]), v (eI o), k10, some (.own (.lst (P.map fun p => eL (levT p.1 p.2)))), none, none, none, none, none, none, none, none, none, v (.int k), none, none, none], [some (.bref (.lst u2)), v (eG ts), v (eS (some a, some b)), v (eQ rs), v (.lst [eP s1, eP s2]), v (.lst (P.map eP)), v (.int (ts.length : Nat)), v (.tup [.int x, eRow es]), v (.lst [.bl (decide (s1 ∈ P)), .bl (decide (s2 ∈ P)), .bl false]), v (eI o), k10, some (.own (.lst (P.map fun p => eL (levT p.1 p.2)))), none, none, none, none, none, none, none, none, none, v (.int k), none, none, none], by simp, rfl, fun z => absurd z (by simp), fun _ => ⟨_, [some (.bref (.lst u2)), v (eG ts), v (eS (some a, some b)), v (eQ rs), v (.lst [eP s1, eP s2]), v (.lst (P.map eP)), v (.int (ts.length : Nat)), v (.tup [.int x, eRow es]), v (.lst [.bl (decide (s1 ∈ P)), .bl (decide (s2 ∈ P)), .bl false]), v (eI o), k10, v (.lst (P.map fun p => eL (levT p.1 p.2))), none, none, none, none, none, none, none, none, none, v (.int k), none, none, none], [some (.bref (.lst u2)), v (eG ts), v (eS (some a, some b)), v (eQ rs), v (.lst [eP s1, eP s2]), v (.lst (P.map eP)), v (.int (ts.length : Nat)), v (.tup [.int x, eRow es]), v (.lst [.bl (decide (s1 ∈ P)), .bl (decide (s2 ∈ P)), .bl false]), v (eI o), k10, v (.lst (P.map fun p => eL (levT p.1 p.2))), none, none, none, none, none, none, none, none, none, v (.int k), none, none, none], in14 k (by omega) _ (.inl rfl), rfl, rfl⟩⟩
        · exact ⟨[some (.bref (.lst u2)), v (eG ts), v (eS (some a, some b)), v (eQ rs), v (.lst [eP s1, eP s2]), v (.lst (P.map eP)), v (.int (ts.length : Nat)), v (.tup [.int x, eRow es]), v (.lst [.bl (decide (s1 ∈ P)), .bl (decide (s2 ∈ P)), .bl false]), v (eI o), k10, v (.lst (P.map fun p => eL (levT p.1 p.2))), none, none, none, none, none, none, none, none, none, v (.int k), none, none, none], [some (.bref (.lst u2)), v (eG ts), v (eS (some a, some b)), v (eQ rs), v (.lst [eP s1, eP s2]), v (.lst (P.map eP)), v (.int (ts.length : Nat)), v (.tup [.int x, eRow es]), v (.lst [.bl (decide (s1 ∈ P)), .bl (decide (s2 ∈ P)), .bl false]), v (eI o), k10, v (.lst (P.map fun p => eL (levT p.1 p.2))), none, none, none, none, none, none, none, none, none, v (.int k), none, none, none], by simp, rfl, fun z => absurd z (by simp), fun _ => ⟨_, [some (.bref (.lst u2)), v (eG ts), v (eS (some a, some b)), v (eQ rs), v (.lst [eP s1, eP s2]), v (.lst (P.map eP)), v (.int (ts.length : Nat)), v (.tup [.int x, eRow es]), v (.lst [.bl (decide (s1 ∈ P)), .bl (decide (s2 ∈ P)), .bl false]), v (eI o), k10, v (.lst (P.map fun p => eL (levT p.1 p.2))), none, none, none, none, none, none, none, none, none, v (.int k), none, none, none], [some (.bref (.lst u2)), v (eG ts), v (eS (some a, some b)), v (eQ rs), v (.lst [eP s1, eP s2]), v (.lst (P.map eP)), v (.int (ts.length : Nat)), v (.tup [.int x, eRow es]), v (.lst [.bl (decide (s1 ∈ P)), .bl (decide (s2 ∈ P)), .bl false]), v (eI o), k10, v (.lst (P.map fun p => eL (levT p.1 p.2))), none, none, none, none, none, none, none, none, none, v (.int k), none, none, none], in14 k (by omega) _ (.inr rfl), rfl, rfl⟩⟩)
    rw [filter_yes] at this
    rw [this, List.map_map]
    rfl
  have rr14 := t_ranges ((List.range (ts.length + 1)).map fun k => P.map (lvAt k)) (by rw [List.length_map, List.length_range]; omega) (fun l hl => by
    obtain ⟨k, hk, rfl⟩ := List.mem_map.mp hl
    exact hr14.1 k (List.mem_range.mp hk))
  rw [hr14.2] at rr14
  generalize hQ : (((List.range (ts.length + 1)).map fun k => P.map (lvAt k)).map eL) = Q14 at lc14 rr14
  refine gd (sl1 := [some (.bref (.lst u2)), v (eG ts), v (eS (some a, some b)), v (eQ rs), v (.lst [eP s1, eP s2]), v (.lst (P.map eP)), v (.int (ts.length : Nat)), v (.tup [.int x, eRow es]), v (.lst [.bl (decide (s1 ∈ P)), .bl (decide (s2 ∈ P)), .bl false]), v (eI o), k10, v (.lst (P.map fun p => eL (levT p.1 p.2))), none, none, v (.lst (ls.map eS)), v (.bl true), none, none, none, none, none, none, none, none, none]) (by simp [lc14, rr14]) ?_
  have hr15 := lots_num hts hok hb T0.lv
  rw [hPP] at hr15
  have in15 : ∀ (k : Nat), k < ts.length → C.lc (C.iter (C.var 5)) (C.gtup 2 (C.gcons (C.gname 19) (C.gcons (C.gname 20) C.gnil))) C.tyes (C.bin O.ix (C.bin O.ix (C.var 20) (C.var 21)) (C.const (.int (1)))) [19, 20] [some (.bref (.lst u2)), v (eG ts), v (eS (some a, some b)), v (eQ rs), v (.lst [eP s1, eP s2]), v (.lst (P.map eP)), v (.int (ts.length : Nat)), v (.tup [.int x, eRow es]), v (.lst [.bl (decide (s1 ∈ P)), .bl (decide (s2 ∈ P)), .bl false]), v (eI o), k10, v (.lst (P.map fun p => eL (levT p.1 p.2))), none, none, v (.lst (ls.map eS)), v (.bl true), none, none, none, none, none, v (.int k), none, none, none] = .ok (.n (.lst ((P.map (nmAt k)).map D.int))) [some (.bref (.lst u2)), v (eG ts), v (eS (some a, some b)), v (eQ rs), v (.lst [eP s1, eP s2]), v (.lst (P.map eP)), v (.int (ts.length : Nat)), v (.tup [.int x, eRow es]), v (.lst [.bl (decide (s1 ∈ P)), .bl (decide (s2 ∈ P)), .bl false]), v (eI o), k10, v (.lst (P.map fun p => eL (levT p.1 p.2))), none, none, v (.lst (ls.map eS)), v (.bl true), none, none, none, none, none, v (.int k), none, none, none] := by
    intro k hk
    have := lc_is (P := fun d (p : Int × List Ev) => d = eP p) (it := C.iter (C.var 5)) (g := C.gtup 2 (C.gcons (C.gname 19) (C.gcons (C.gname 20) C.gnil))) (t := C.tyes) (e := C.bin O.ix (C.bin O.ix (C.var 20) (C.var 21)) (C.const (.int (1)))) (vs := [19, 20])
      (sl := [some (.bref (.lst u2)), v (eG ts), v (eS (some a, some b)), v (eQ rs), v (.lst [eP s1, eP s2]), v (.lst (P.map eP)), v (.int (ts.length : Nat)), v (.tup [.int x, eRow es]), v (.lst [.bl (decide (s1 ∈ P)), .bl (decide (s2 ∈ P)), .bl false]), v (eI o), k10, v (.lst (P.map fun p => eL (levT p.1 p.2))), none, none, v (.lst (ls.map eS)), v (.bl true), none, none, none, none, none, v (.int k), none, none, none]) (sl1 := [some (.bref (.lst u2)), v (eG ts), v (eS (some a, some b)), v (eQ rs), v (.lst [eP s1, eP s2]), v (.lst (P.map eP)), v (.int (ts.length : Nat)), v (.tup [.int x, eRow es]), v (.lst [.bl (decide (s1 ∈ P)), .bl (decide (s2 ∈ P)), .bl false]), v (eI o), k10, v (.lst (P.map fun p => eL (levT p.1 p.2))), none, none, v (.lst (ls.map eS)), v (.bl true), none, none, none, none, none, v (.int k), none, none, none]) (as := P) (fun _ => true) (fun p => .int (nmAt k p)) (ds := P.map eP) (by simp) (is2_map _ _) (by rw [List.length_map]; omega) (fun d p hd hp => by
        subst hd
        have hk2 : k < p.2.length := by rw [(hPl p hp).1]; exact hk
        obtain ⟨e, he⟩ : ∃ e, p.2[k]? = some e := ⟨_, List.getElem?_eq_getElem hk2⟩
        have hix : atD (p.2.map eE) ((k : Nat) : Int) = some (.tup [eW e.1, .int (nmAt k p)]) := by
          rw [atD_nat, List.getElem?_map, he]
          simp [nmAt, he, eE]
        exact ⟨[some (.bref (.lst u2)), v (eG ts), v (eS (some a, some b)), v (eQ rs), v (.lst [eP s1, eP s2]), v (.lst (P.map eP)), v (.int (ts.length : Nat)), v (.tup [.int x, eRow es]), v (.lst [.bl (decide (s1 ∈ P)), .bl (decide (s2 ∈ P)), .bl false]), v (eI o), k10, v (.lst (P.map fun p => eL (levT p.1 p.2))), none, none, v (.lst (ls.map eS)), v (.bl true), none, none, none, v (.int p.1), v (eRow p.2), v (.int k), none, none, none], by simp [eP], rfl, rfl, fun _ => ⟨.v (.int (nmAt k p)), [some (.bref (.lst u2)), v (eG ts), v (eS (some a, some b)), v (eQ rs), v (.lst [eP s1, eP s2]), v (.lst (P.map eP)), v (.int (ts.length : Nat)), v (.tup [.int x, eRow es]), v (.lst [.bl (decide (s1 ∈ P)), .bl (decide (s2 ∈ P)), .bl false]), v (eI o), k10, v (.lst (P.map fun p => eL (levT p.1 p.2))), none, none, v (.lst (ls.map eS)), v (.bl true), none, none, none, v (.int p.1), v (eRow p.2), v (.int k), none, none, none], [some (.bref (.lst u2)), v (eG ts), v (eS (some a, some b)), v (eQ rs), v (.lst [eP s1, eP s2]), v (.lst (P.map eP)), v (.int (ts.length : Nat)), v (.tup [.int x, eRow es]), v (.lst [.bl (decide (s1 ∈ P)), .bl (decide (s2 ∈ P)), .bl false]), v (eI o), k10, v (.lst (P.map fun p => eL (levT p.1 p.2))), none, none, v (.lst (ls.map eS)), v (.bl true), none, none, none, v (.int p.1), v (eRow p.2), v (.int k), none, none, none], by simp [eRow, hix], rfl, rfl⟩⟩)
    rw [filter_yes] at this
    rw [this, List.map_map]
    rfl
  have lc15 : C.lc (C.iterA W.range1 (C.acons (C.var 6) C.anil)) (C.gname 21) C.tyes (C.lc (C.iter (C.var 5)) (C.gtup 2 (C.gcons (C.gname 19) (C.gcons (C.gname 20) C.gnil))) C.tyes (C.bin O.ix (C.bin O.ix (C.var 20) (C.var 21)) (C.const (.int (1)))) [19, 20]) [21] [some (.bref (.lst u2)), v (eG ts), v (eS (some a, some b)), v (eQ rs), v (.lst [eP s1, eP s2]), v (.lst (P.map eP)), v (.int (ts.length : Nat)), v (.tup [.int x, eRow es]), v (.lst [.bl (decide (s1 ∈ P)), .bl (decide (s2 ∈ P)), .bl false]), v (eI o), k10, v (.lst (P.map fun p => eL (levT p.1 p.2))), none, none, v (.lst (ls.map eS)), v (.bl true), none, none, none, none, none, none, none, none, none] = .ok (.n (.lst (((List.range ts.length).map fun k => P.map (nmAt k)).map eL))) [some (.bref (.lst u2)), v (eG ts), v (eS (some a, some b)), v (eQ rs), v (.lst [eP s1, eP s2]), v (.lst (P.map eP)), v (.int (ts.length : Nat)), v (.tup [.int x, eRow es]), v (.lst [.bl (decide (s1 ∈ P)), .bl (decide (s2 ∈ P)), .bl false]), v (eI o), k10, v (.lst (P.map fun p => eL (levT p.1 p.2))), none, none, v (.lst (ls.map eS)), v (.bl true), none, none, none, none, none, none, none, none, none] := by
    have := lc_is (P := fun d (k : Nat) => d = .int k) (it := C.iterA W.range1 (C.acons (C.var 6) C.anil)) (g := C.gname 21) (t := C.tyes) (e := C.lc (C.iter (C.var 5)) (C.gtup 2 (C.gcons (C.gname 19) (C.gcons (C.gname 20) C.gnil))) C.tyes (C.bin O.ix (C.bin O.ix (C.var 20) (C.var 21)) (C.const (.int (1)))) [19, 20]) (vs := [21])
      (sl := [some (.bref (.lst u2)), v (eG ts), v (eS (some a, some b)), v (eQ rs), v (.lst [eP s1, eP s2]), v (.lst (P.map eP)), v (.int (ts.length : Nat)), v (.tup [.int x, eRow es]), v (.lst [.bl (decide (s1 ∈ P)), .bl (decide (s2 ∈ P)), .bl false]), v (eI o), k10, v (.lst (P.map fun p => eL (levT p.1 p.2))), none, none, v (.lst (ls.map eS)), v (.bl true), none, none, none, none, none, none, none, none, none]) (sl1 := [some (.bref (.lst u2)), v (eG ts), v (eS (some a, some b)), v (eQ rs), v (.lst [eP s1, eP s2]), v (.lst (P.map eP)), v (.int (ts.length : Nat)), v (.tup [.int x, eRow es]), v (.lst [.bl (decide (s1 ∈ P)), .bl (decide (s2 ∈ P)), .bl false]), v (eI o), k10, v (.lst (P.map fun p => eL (levT p.1 p.2))), none, none, v (.lst (ls.map eS)), v (.bl true), none, none, none, none, none, none, none, none, none]) (as := List.range ts.length) (fun _ => true) (fun k => eL (P.map (nmAt k))) (ds := (List.range (ts.length)).map fun (k : Nat) => D.int k) (by rw [← rng15]; exact it_range1v (by omega) rfl) (is2_map _ _) (by rw [List.length_map, List.length_range]; omega) (fun d k hd hk => by
        subst hd
        have hk := List.mem_range.mp hk
        exact ⟨[some (.bref (.lst u2)), v (eG ts), v (eS (some a, some b)), v (eQ rs), v (.lst [eP s1, eP s2]), v (.lst (P.map eP)), v (.int (ts.length : Nat)), v (.tup [.int x, eRow es]), v (.lst [.bl (decide (s1 ∈ P)), .bl (decide (s2 ∈ P)), .bl false]), v (eI o), k10, v (.lst (P.map fun p => eL (levT p.1 p.2))), none, none, v (.lst (ls.map eS)), v (.bl true), none, none, none, none, none, v (.int k), none, none, none], by simp, rfl, rfl, fun _ => ⟨_, [some (.bref (.lst u2)), v (eG ts), v (eS (some a, some b)), v (eQ rs), v (.lst [eP s1, eP s2]), v (.lst (P.map eP)), v (.int (ts.length : Nat)), v (.tup [.int x, eRow es]), v (.lst [.bl (decide (s1 ∈ P)), .bl (decide (s2 ∈ P)), .bl false]), v (eI o), k10, v (.lst (P.map fun p => eL (levT p.1 p.2))), none, none, v (.lst (ls.map eS)), v (.bl true), none, none, none, none, none, v (.int k), none, none, none], [some (.bref (.lst u2)), v (eG ts), v (eS (some a, some b)), v (eQ rs), v (.lst [eP s1, eP s2]), v (.lst (P.map eP)), v (.int (ts.length : Nat)), v (.tup [.int x, eRow es]), v (.lst [.bl (decide (s1 ∈ P)), .bl (decide (s2 ∈ P)), .bl false]), v (eI o), k10, v (.lst (P.map fun p => eL (levT p.1 p.2))), none, none, v (.lst (ls.map eS)), v (.bl true), none, none, none, none, none, v (.int k), none, none, none], in15 k hk, rfl, rfl⟩⟩)
    rw [filter_yes] at this
    rw [this, List.map_map]
    rfl
  have rr15 := t_ranges ((List.range ts.length).map fun k => P.map (nmAt k)) (by rw [List.length_map, List.length_range]; omega) (fun l hl => by
    obtain ⟨k, hk, rfl⟩ := List.mem_map.mp hl
    exact hr15.1 k (List.mem_range.mp hk))
  rw [hr15.2] at rr15
  generalize hQ2 : (((List.range ts.length).map fun k => P.map (nmAt k)).map eL) = Q15 at lc15 rr15
  refine gd (sl1 := [some (.bref (.lst u2)), v (eG ts), v (eS (some a, some b)), v (eQ rs), v (.lst [eP s1, eP s2]), v (.lst (P.map eP)), v (.int (ts.length : Nat)), v (.tup [.int x, eRow es]), v (.lst [.bl (decide (s1 ∈ P)), .bl (decide (s2 ∈ P)), .bl false]), v (eI o), k10, v (.lst (P.map fun p => eL (levT p.1 p.2))), none, none, v (.lst (ls.map eS)), v (.bl true), v (.lst (ns.map eS)), v (.bl true), none, none, none, none, none, none, none]) (by simp [lc15, rr15]) ?_
  have lc16 : C.lc (C.iterA W.enum (C.acons (C.var 14) C.anil)) (C.gtup 2 (C.gcons (C.gname 21) (C.gcons (C.gtup 2 (C.gcons (C.gname 23) (C.gcons (C.gname 24) C.gnil))) C.gnil))) (C.tv (C.bin O.eq (C.var 23) (C.var 24))) (C.var 21) [21, 23, 24] [some (.bref (.lst u2)), v (eG ts), v (eS (some a, some b)), v (eQ rs), v (.lst [eP s1, eP s2]), v (.lst (P.map eP)), v (.int (ts.length : Nat)), v (.tup [.int x, eRow es]), v (.lst [.bl (decide (s1 ∈ P)), .bl (decide (s2 ∈ P)), .bl false]), v (eI o), k10, v (.lst (P.map fun p => eL (levT p.1 p.2))), none, none, v (.lst (ls.map eS)), v (.bl true), v (.lst (ns.map eS)), v (.bl true), none, none, none, none, none, none, none] = .ok (.n (.lst (eN (settledT ls)))) [some (.bref (.lst u2)), v (eG ts), v (eS (some a, some b)), v (eQ rs), v (.lst [eP s1, eP s2]), v (.lst (P.map eP)), v (.int (ts.length : Nat)), v (.tup [.int x, eRow es]), v (.lst [.bl (decide (s1 ∈ P)), .bl (decide (s2 ∈ P)), .bl false]), v (eI o), k10, v (.lst (P.map fun p => eL (levT p.1 p.2))), none, none, v (.lst (ls.map eS)), v (.bl true), v (.lst (ns.map eS)), v (.bl true), none, none, none, none, none, none, none] := by
    have := lc_is (P := fun d (p : S2 × Nat) => d = .tup [.int (p.2 : Nat), eS p.1]) (it := C.iterA W.enum (C.acons (C.var 14) C.anil)) (g := C.gtup 2 (C.gcons (C.gname 21) (C.gcons (C.gtup 2 (C.gcons (C.gname 23) (C.gcons (C.gname 24) C.gnil))) C.gnil))) (t := C.tv (C.bin O.eq (C.var 23) (C.var 24))) (e := C.var 21) (vs := [21, 23, 24])
      (sl := [some (.bref (.lst u2)), v (eG ts), v (eS (some a, some b)), v (eQ rs), v (.lst [eP s1, eP s2]), v (.lst (P.map eP)), v (.int (ts.length : Nat)), v (.tup [.int x, eRow es]), v (.lst [.bl (decide (s1 ∈ P)), .bl (decide (s2 ∈ P)), .bl false]), v (eI o), k10, v (.lst (P.map fun p => eL (levT p.1 p.2))), none, none, v (.lst (ls.map eS)), v (.bl true), v (.lst (ns.map eS)), v (.bl true), none, none, none, none, none, none, none]) (sl1 := [some (.bref (.lst u2)), v (eG ts), v (eS (some a, some b)), v (eQ rs), v (.lst [eP s1, eP s2]), v (.lst (P.map eP)), v (.int (ts.length : Nat)), v (.tup [.int x, eRow es]), v (.lst [.bl (decide (s1 ∈ P)), .bl (decide (s2 ∈ P)), .bl false]), v (eI o), k10, v (.lst (P.map fun p => eL (levT p.1 p.2))), none, none, v (.lst (ls.map eS)), v (.bl true), v (.lst (ns.map eS)), v (.bl true), none, none, none, none, none, none, none]) (as := ls.zipIdx) (fun p => stB p.1) (fun p => .int (p.2 : Nat)) (ds := enumD 0 (ls.map eS)) (by simp) (by rw [enumD_map]; exact is2_map _ _) (by rw [enumD_len, List.length_map, T0.lv.ll]; omega) (fun d p hd hp => by
        subst hd
        obtain ⟨z, i⟩ := p
        obtain ⟨j, hj⟩ := List.getElem?_of_mem hp
        rw [List.getElem?_zipIdx] at hj
        have hz : ls[j]? = some z := by
          cases q : ls[j]? with
          | none => rw [q] at hj; cases hj
          | some z' => rw [q] at hj; simp at hj; rw [hj.1]
        obtain ⟨z1, z2, rfl⟩ := T0.lv.fin hz
        refine ⟨[some (.bref (.lst u2)), v (eG ts), v (eS (some a, some b)), v (eQ rs), v (.lst [eP s1, eP s2]), v (.lst (P.map eP)), v (.int (ts.length : Nat)), v (.tup [.int x, eRow es]), v (.lst [.bl (decide (s1 ∈ P)), .bl (decide (s2 ∈ P)), .bl false]), v (eI o), k10, v (.lst (P.map fun p => eL (levT p.1 p.2))), none, none, v (.lst (ls.map eS)), v (.bl true), v (.lst (ns.map eS)), v (.bl true), none, none, none, v (.int (i : Nat)), none, v (.int z1), v (.int z2)], by simp [eS], ?_, rfl, fun _ => ⟨.v (.int (i : Nat)), [some (.bref (.lst u2)), v (eG ts), v (eS (some a, some b)), v (eQ rs), v (.lst [eP s1, eP s2]), v (.lst (P.map eP)), v (.int (ts.length : Nat)), v (.tup [.int x, eRow es]), v (.lst [.bl (decide (s1 ∈ P)), .bl (decide (s2 ∈ P)), .bl false]), v (eI o), k10, v (.lst (P.map fun p => eL (levT p.1 p.2))), none, none, v (.lst (ls.map eS)), v (.bl true), v (.lst (ns.map eS)), v (.bl true), none, none, none, v (.int (i : Nat)), none, v (.int z1), v (.int z2)], [some (.bref (.lst u2)), v (eG ts), v (eS (some a, some b)), v (eQ rs), v (.lst [eP s1, eP s2]), v (.lst (P.map eP)), v (.int (ts.length : Nat)), v (.tup [.int x, eRow es]), v (.lst [.bl (decide (s1 ∈ P)), .bl (decide (s2 ∈ P)), .bl false]), v (eI o), k10, v (.lst (P.map fun p => eL (levT p.1 p.2))), none, none, v (.lst (ls.map eS)), v (.bl true), v (.lst (ns.map eS)), v (.bl true), none, none, none, v (.int (i : Nat)), none, v (.int z1), v (.int z2)], by simp, rfl, rfl⟩⟩
        by_cases q : z1 = z2 <;> simp [stB, q])
    rw [this]
    unfold settledT eN
    rw [List.map_map]
    rfl
  refine gd (sl1 := [some (.bref (.lst u2)), v (eG ts), v (eS (some a, some b)), v (eQ rs), v (.lst [eP s1, eP s2]), v (.lst (P.map eP)), v (.int (ts.length : Nat)), v (.tup [.int x, eRow es]), v (.lst [.bl (decide (s1 ∈ P)), .bl (decide (s2 ∈ P)), .bl false]), v (eI o), k10, v (.lst (P.map fun p => eL (levT p.1 p.2))), v (.tup (eN (settledT ls))), none, v (.lst (ls.map eS)), v (.bl true), v (.lst (ns.map eS)), v (.bl true), none, none, none, none, none, none, none]) (by simp [lc16]) ?_
  have rng17 : rangeD 0 (((rs.length : Nat) : Int)).toNat = (List.range (rs.length)).map fun (k : Nat) => D.int k := by
    unfold rangeD
    rw [show (((rs.length : Nat) : Int)).toNat = rs.length by omega]
    apply List.map_congr_left
    intro i _
    simp
  have lQ := len_eQ rs
  have lc17 : C.lc (C.iterA W.range1 (C.acons (C.call O.len (C.acons (C.var 3) C.anil)) C.anil)) (C.gname 21) (C.tv (C.bin O.eq (C.ucallM [] d__law_pairs (C.acons (C.var 1) (C.acons (C.var 2) (C.acons (C.bin O.add (C.slice (C.var 3) C.pnone (C.psome (C.var 21))) (C.slice (C.var 3) (C.psome (C.bin O.add (C.var 21) (C.const (.int (1))))) C.pnone)) C.anil)))) (C.var 5))) (C.var 21) [21] [some (.bref (.lst u2)), v (eG ts), v (eS (some a, some b)), v (eQ rs), v (.lst [eP s1, eP s2]), v (.lst (P.map eP)), v (.int (ts.length : Nat)), v (.tup [.int x, eRow es]), v (.lst [.bl (decide (s1 ∈ P)), .bl (decide (s2 ∈ P)), .bl false]), v (eI o), k10, v (.lst (P.map fun p => eL (levT p.1 p.2))), v (.tup (eN (settledT ls))), none, v (.lst (ls.map eS)), v (.bl true), v (.lst (ns.map eS)), v (.bl true), none, none, none, none, none, none, none] = .ok (.n (.lst (eN (ndT ts (some a, some b) rs)))) [some (.bref (.lst u2)), v (eG ts), v (eS (some a, some b)), v (eQ rs), v (.lst [eP s1, eP s2]), v (.lst (P.map eP)), v (.int (ts.length : Nat)), v (.tup [.int x, eRow es]), v (.lst [.bl (decide (s1 ∈ P)), .bl (decide (s2 ∈ P)), .bl false]), v (eI o), k10, v (.lst (P.map fun p => eL (levT p.1 p.2))), v (.tup (eN (settledT ls))), none, v (.lst (ls.map eS)), v (.bl true), v (.lst (ns.map eS)), v (.bl true), none, none, none, none, none, none, none] := by
    have := lc_is (P := fun d (k : Nat) => d = .int k) (it := C.iterA W.range1 (C.acons (C.call O.len (C.acons (C.var 3) C.anil)) C.anil)) (g := C.gname 21) (t := C.tv (C.bin O.eq (C.ucallM [] d__law_pairs (C.acons (C.var 1) (C.acons (C.var 2) (C.acons (C.bin O.add (C.slice (C.var 3) C.pnone (C.psome (C.var 21))) (C.slice (C.var 3) (C.psome (C.bin O.add (C.var 21) (C.const (.int (1))))) C.pnone)) C.anil)))) (C.var 5))) (e := C.var 21) (vs := [21])
      (sl := [some (.bref (.lst u2)), v (eG ts), v (eS (some a, some b)), v (eQ rs), v (.lst [eP s1, eP s2]), v (.lst (P.map eP)), v (.int (ts.length : Nat)), v (.tup [.int x, eRow es]), v (.lst [.bl (decide (s1 ∈ P)), .bl (decide (s2 ∈ P)), .bl false]), v (eI o), k10, v (.lst (P.map fun p => eL (levT p.1 p.2))), v (.tup (eN (settledT ls))), none, v (.lst (ls.map eS)), v (.bl true), v (.lst (ns.map eS)), v (.bl true), none, none, none, none, none, none, none]) (sl1 := [some (.bref (.lst u2)), v (eG ts), v (eS (some a, some b)), v (eQ rs), v (.lst [eP s1, eP s2]), v (.lst (P.map eP)), v (.int (ts.length : Nat)), v (.tup [.int x, eRow es]), v (.lst [.bl (decide (s1 ∈ P)), .bl (decide (s2 ∈ P)), .bl false]), v (eI o), k10, v (.lst (P.map fun p => eL (levT p.1 p.2))), v (.tup (eN (settledT ls))), none, v (.lst (ls.map eS)), v (.bl true), v (.lst (ns.map eS)), v (.bl true), none, none, none, none, none, none, none]) (as := List.range rs.length) (fun i => decide (pairsT ts a b (rs.take i ++ rs.drop (i + 1)) = pairsT ts a b rs)) (fun k => .int (k : Nat)) (ds := (List.range (rs.length)).map fun (k : Nat) => D.int k) (by rw [← rng17]; exact it_range1 (by omega) (by simp [lQ, -O.len])) (is2_map _ _) (by rw [List.length_map, List.length_range]; omega) (fun d k hd hk => by
        subst hd
        have hk := List.mem_range.mp hk
        refine ⟨[some (.bref (.lst u2)), v (eG ts), v (eS (some a, some b)), v (eQ rs), v (.lst [eP s1, eP s2]), v (.lst (P.map eP)), v (.int (ts.length : Nat)), v (.tup [.int x, eRow es]), v (.lst [.bl (decide (s1 ∈ P)), .bl (decide (s2 ∈ P)), .bl false]), v (eI o), k10, v (.lst (P.map fun p => eL (levT p.1 p.2))), v (.tup (eN (settledT ls))), none, v (.lst (ls.map eS)), v (.bl true), v (.lst (ns.map eS)), v (.bl true), none, none, none, v (.int (k : Nat)), none, none, none], by simp, ?_, rfl, fun _ => ⟨.v (.int (k : Nat)), [some (.bref (.lst u2)), v (eG ts), v (eS (some a, some b)), v (eQ rs), v (.lst [eP s1, eP s2]), v (.lst (P.map eP)), v (.int (ts.length : Nat)), v (.tup [.int x, eRow es]), v (.lst [.bl (decide (s1 ∈ P)), .bl (decide (s2 ∈ P)), .bl false]), v (eI o), k10, v (.lst (P.map fun p => eL (levT p.1 p.2))), v (.tup (eN (settledT ls))), none, v (.lst (ls.map eS)), v (.bl true), v (.lst (ns.map eS)), v (.bl true), none, none, none, v (.int (k : Nat)), none, none, none], [some (.bref (.lst u2)), v (eG ts), v (eS (some a, some b)), v (eQ rs), v (.lst [eP s1, eP s2]), v (.lst (P.map eP)), v (.int (ts.length : Nat)), v (.tup [.int x, eRow es]), v (.lst [.bl (decide (s1 ∈ P)), .bl (decide (s2 ∈ P)), .bl false]), v (eI o), k10, v (.lst (P.map fun p => eL (levT p.1 p.2))), v (.tup (eN (settledT ls))), none, v (.lst (ls.map eS)), v (.bl true), v (.lst (ns.map eS)), v (.bl true), none, none, none, v (.int (k : Nat)), none, none, none], by simp, rfl, rfl⟩⟩
        have c1 : cutD (rs.map eR) none (some (k : Int)) = (rs.take k).map eR := by
          unfold cutD
          have h := HT.sIx_nat (rs.map eR).length (rs.map eR).length k
          rw [h, HT.sIx_none, List.drop_zero, Nat.sub_zero, List.length_map, Nat.min_eq_left (by omega), List.map_take]
        have c2 : cutD (rs.map eR) (some ((k : Int) + 1)) none = (rs.drop (k + 1)).map eR := by
          unfold cutD
          have h := HT.sIx_nat (rs.map eR).length 0 (k + 1)
          have h : HT.sIx (rs.map eR).length 0 (some ((k : Int) + 1)) = _ := h
          rw [h, HT.sIx_none, List.length_map, Nat.min_eq_left (by omega), List.map_drop]
          apply List.take_of_length_le
          rw [List.length_drop, List.length_map]
          omega
        have hsub : ∀ r ∈ rs.take k ++ rs.drop (k + 1), r ∈ rs := fun r hr => by
          rcases List.mem_append.mp hr with h | h
          · exact List.mem_of_mem_take h
          · exact List.mem_of_mem_drop h
        have hp2 := t_pairs (.inl rfl) hts (is2_to eR (fun _ => .inl rfl) (rs.take k ++ rs.drop (k + 1))) (okRs_sub hok hsub) (by rw [List.length_append, List.length_take, List.length_drop]; omega) ha hb hab hle
        have hp2 : d__law_pairs [.val (eG ts), .val (eS (some a, some b)), .val (.tup ((rs.take k ++ rs.drop (k + 1)).map eR))] = _ := hp2
        have sl1 : O.slice none (some (k : Int)) (eQ rs) = some (.v (.tup ((rs.take k).map eR))) := by rw [← c1]; rfl
        have sl2 : O.slice (some ((k : Int) + 1)) none (eQ rs) = some (.v (.tup ((rs.drop (k + 1)).map eR))) := by rw [← c2]; rfl
        have ad : O.add (.tup ((rs.take k).map eR)) (.tup ((rs.drop (k + 1)).map eR)) = some (.v (.tup ((rs.take k ++ rs.drop (k + 1)).map eR))) := by
          rw [List.map_append]
          exact if_pos (by rw [List.length_map, List.length_map, List.length_take, List.length_drop]; omega)
        have lay2 : D.layL 8 ((pairsT ts a b (rs.take k ++ rs.drop (k + 1))).map eP) = true := layL_map 8 eP (lay_eP 5) _
        have eq2 := eqvL_map eP eqv_eP (pairsT ts a b (rs.take k ++ rs.drop (k + 1))) P
        have ad0 : O.add (.int (k : Nat)) (.int 1) = some (.v (.int ((k : Int) + 1))) := rfl
        rw [hPP]
        simp [sl1, sl2, ad, ad0, hp2, hlay, lay2, eq2, -O.slice, -O.add, -List.map_append, -List.map_take, -List.map_drop])
    rw [this, ← nd_free hts.okTs hs hok hf]
    rfl
  refine gd (sl1 := [some (.bref (.lst u2)), v (eG ts), v (eS (some a, some b)), v (eQ rs), v (.lst [eP s1, eP s2]), v (.lst (P.map eP)), v (.int (ts.length : Nat)), v (.tup [.int x, eRow es]), v (.lst [.bl (decide (s1 ∈ P)), .bl (decide (s2 ∈ P)), .bl false]), v (eI o), k10, v (.lst (P.map fun p => eL (levT p.1 p.2))), v (.tup (eN (settledT ls))), v (.tup (eN (ndT ts (some a, some b) rs))), v (.lst (ls.map eS)), v (.bl true), v (.lst (ns.map eS)), v (.bl true), none, none, none, none, none, none, none]) (by simp [lc17]) ?_
  refine gd (sl1 := [some (.bref (.lst u2)), v (eG ts), v (eS (some a, some b)), v (eQ rs), v (.lst [eP s1, eP s2]), v (.lst (P.map eP)), v (.int (ts.length : Nat)), v (.tup [.int x, eRow es]), some (.own (.lst [.lst (ls.map eS), .lst (ns.map eS), .tup (eN (settledT ls)), .tup (eN (ndT ts (some a, some b) rs)), .bl true])), v (eI o), k10, v (.lst (P.map fun p => eL (levT p.1 p.2))), v (.tup (eN (settledT ls))), v (.tup (eN (ndT ts (some a, some b) rs))), v (.lst (ls.map eS)), v (.bl true), v (.lst (ns.map eS)), v (.bl true), none, none, none, none, none, none, none]) (by simp [T0.lev, T0.num, T0.set, T0.nd]) ?_
  have hsz := hsame (.lst [.lst (ls.map eS), .lst (ns.map eS), .tup (eN (settledT ls)), .tup (eN (ndT ts (some a, some b) rs)), .bl true]) (by
    have k1 := sm_ls 4 ls (by rw [T0.lv.ll]; omega)
    have k2 := sm_ls 4 ns (by rw [T0.lv.nl]; omega)
    have k3 := sm_eN 5 (settledT ls) (by
      unfold settledT
      rw [List.length_map]
      refine Nat.le_trans (List.length_filter_le _ _) ?_
      rw [List.length_zipIdx, T0.lv.ll]; omega)
    have k4 := sm_eN 5 (ndT ts (some a, some b) rs) (by
      unfold ndT
      rw [List.length_map]
      refine Nat.le_trans (List.length_filter_le _ _) ?_
      rw [List.length_zipIdx]; omega)
    simp [sm, smL] at k1 k2 k3 k4 ⊢
    simp [k1, k2, k3, k4])
  refine gdR (sl1 := [some (.bref (.lst u2)), v (eG ts), v (eS (some a, some b)), v (eQ rs), v (.lst [eP s1, eP s2]), v (.lst (P.map eP)), v (.int (ts.length : Nat)), v (.tup [.int x, eRow es]), v (.lst [.lst (ls.map eS), .lst (ns.map eS), .tup (eN (settledT ls)), .tup (eN (ndT ts (some a, some b) rs)), .bl true]), v (eI o), k10, v (.lst (P.map fun p => eL (levT p.1 p.2))), v (.tup (eN (settledT ls))), v (.tup (eN (ndT ts (some a, some b) rs))), v (.lst (ls.map eS)), v (.bl true), v (.lst (ns.map eS)), v (.bl true), none, none, none, none, none, none, none]) (by simp [hsz]) rfl
theorem all_told_N {n : Nat} {u : List D} (hu : Urn n u) (hn : n < 900000) {ts : List Tri} {rs : List Rd} (hts : SmT ts) (hok : okRs ts.length rs) (hlr : rs.length < 60) {a b : Int} (ha : -1000 ≤ a) (hb : b ≤ a + 100) (hab : a ≤ 1000) (hle : a ≤ b)
    {s1 s2 : Int × List Ev} (hs1 : s1.2.length < 1000) (hs2 : s2.2.length < 1000) (hf : NoFit ts (some a, some b) rs) : ∃ u', Urn (n + 2) u' ∧ d__law_all_told [.bref (.lst u), .val (eG ts), .val (eS (some a, some b)), .val (eQ rs), .val (.lst [eP s1, eP s2])] = .ok (.v (.bl true)) [some (.bref (.lst u')), v (eG ts), v (eS (some a, some b)), v (eQ rs), v (.lst [eP s1, eP s2])] := by
  have h4 := hts.len
  have hs : okS (some a, some b) = true := by simpa [okS] using hle
  obtain ⟨u1, dg, hu1, hdg, sg⟩ := t_softG hu (by omega) ts (by omega)
  obtain ⟨u2, dr, hu2, hdr, sr⟩ := t_softR hu1 (by omega) rs (by omega)
  have sg : SoftR u1 (eG ts) dg (d__law_soft [.bref (.lst u), .val (eG ts)]) := sg
  have sr : SoftR u2 (eQ rs) dr (d__law_soft [.bref (.lst u1), .val (eQ rs)]) := sr
  have T0 : ToldN (eG ts) (eQ rs) ts (some a, some b) rs := toldN (isG' ts) (isR' rs) hts.okTs hs (by omega) hf
  have T1 : ToldN dg (eQ rs) ts (some a, some b) rs := toldN hdg (isR' rs) hts.okTs hs (by omega) hf
  have T2 : ToldN (eG ts) dr ts (some a, some b) rs := toldN (isG' ts) hdr hts.okTs hs (by omega) hf
  have lG := len_eG ts
  have hp : d__law_pairs [.val (eG ts), .val (eS (some a, some b)), .val (eQ rs)] = Rn ((pairsT ts a b rs).map eP) [eG ts, eS (some a, some b), eQ rs] := t_pairs (.inl rfl) hts (is2_to eR (fun _ => .inl rfl) rs) hok hlr ha hb hab hle
  have hPP := (pairs_nil hok).mpr hf
  rw [hPP, List.map_nil] at hp
  refine ⟨u2, hu2, ?_⟩
  refine good_body [eG ts, eS (some a, some b), eQ rs, .lst [eP s1, eP s2]] rfl ?_
  show Good u2 (b__law_all_told [some (.bref (.lst u)), v (eG ts), v (eS (some a, some b)), v (eQ rs), v (.lst [eP s1, eP s2]), none, none, none, none, none, none, none, none, none, none, none, none, none, none, none, none, none, none, none, none])
  unfold b__law_all_told
  have hsame : ∀ d, sm 7 d = true → d__law_same 8 [.val d, .val d] = R (.bl true) [d, d] := fun d h => t_same 7 d h
  have hs5 := hsame (.lst [.bl true, .bl true, .bl true, .bl true, .bl true]) (by simp [sm, smL])
  have hrep : (List.replicate (Int.toNat 5) [D.bl true]).flatten = [.bl true, .bl true, .bl true, .bl true, .bl true] := rfl
  refine gd (by simp [hp]; rfl) ?_
  refine gd (by simp [lG]; rfl) ?_
  refine gd (by
    have h2 := T1.go
    rcases sg with h | ⟨l, e, h⟩
    · simp [h, h2]; rfl
    · rw [e] at h2
      simp [h, h2]) ?_
  refine gd (by
    have h2 := T2.lev
    rcases sr with h | ⟨l, e, h⟩
    · simp [h, h2, T0.num, T0.set]; rfl
    · rw [e] at h2
      simp [h, h2, T0.num, T0.set]) ?_
  refine gd (by simp [T0.nd]; rfl) ?_
  refine gd (nxF (by simp [hs5, hrep]; rfl) rfl) ?_
  refine gd rfl ?_
  obtain ⟨o, hfw, hfwe⟩ := fw_ok (isG' ts) (isR' rs) hts.okTs hs hok (by omega) (by omega)
  obtain ⟨k10, bl⟩ := bad_loop none (some (.bref (.lst u2))) (v (.lst [eP s1, eP s2])) (some (.own (.lst []))) (v (.int (ts.length : Nat))) (v .non) (v (.lst [.bl true, .bl true, .bl true, .bl true, .bl true])) hts hok hlr ha hb hab hle ((List.range (ts.length + 1)).map fun (i : Nat) => (((ts.length + 1 : Nat) : Int) - 1 + (i : Int) * -1)) none none rfl
  have hbad := FW.one hfw (bad_fw hts.okTs hs hok (ts.length + 1) none (.inr ⟨rfl, rfl⟩))
  rw [← hbad] at bl
  have hms : rangeDC (ts.length : Nat) (-1) (((ts.length : Nat) : Int) - -1).toNat = (((List.range (ts.length + 1)).map fun (i : Nat) => (((ts.length + 1 : Nat) : Int) - 1 + (i : Int) * -1))).map D.int := by
    unfold rangeDC
    rw [List.map_map, show (((ts.length : Nat) : Int) - -1).toNat = ts.length + 1 by omega]
    apply List.map_congr_left
    intro i _
    simp only [Function.comp]
    congr 1
    omega
  have hit : C.iterA W.range3 (C.acons (C.var 6) (C.acons (C.un O.neg (C.const (.int (1)))) (C.acons (C.un O.neg (C.const (.int (1)))) C.anil))) [some (.bref (.lst u2)), v (eG ts), v (eS (some a, some b)), v (eQ rs), v (.lst [eP s1, eP s2]), some (.own (.lst [])), v (.int (ts.length : Nat)), v .non, v (.lst [.bl true, .bl true, .bl true, .bl true, .bl true]), v .non, none, none, none, none, none, none, none, none, none, none, none, none, none, none, none] = .ok ((((List.range (ts.length + 1)).map fun (i : Nat) => (((ts.length + 1 : Nat) : Int) - 1 + (i : Int) * -1))).map D.int) [some (.bref (.lst u2)), v (eG ts), v (eS (some a, some b)), v (eQ rs), v (.lst [eP s1, eP s2]), some (.own (.lst [])), v (.int (ts.length : Nat)), v .non, v (.lst [.bl true, .bl true, .bl true, .bl true, .bl true]), v .non, none, none, none, none, none, none, none, none, none, none, none, none, none, none, none] := by
    rw [← hms]
    exact it_range3 (by omega) rfl
  refine gd (sl1 := [some (.bref (.lst u2)), v (eG ts), v (eS (some a, some b)), v (eQ rs), v (.lst [eP s1, eP s2]), some (.own (.lst [])), v (.int (ts.length : Nat)), v .non, v (.lst [.bl true, .bl true, .bl true, .bl true, .bl true]), v (eI o), k10, none, none, none, none, none, none, none, none, none, none, none, none, none, none]) (forS_of hit bl) ?_
  have hso := hsame (eI o) (sm_eI _ _)
  refine gd (nxF (by simp [hfwe, hso]; rfl) rfl) ?_
  have gw : ∀ s : Int × List Ev, s.2.length < 1000 → d_goes_with [.val (eG ts), .val (eS (some a, some b)), .val (eQ rs), .val (eP s)] = R (.bl false) [eG ts, eS (some a, some b), eQ rs, eP s] := fun s hl => by
    have h1 := t_gw (is2_to eT (fun _ => .inl rfl) ts) (is2_to eR (fun _ => .inl rfl) rs) (some a, some b) s.1 s.2 hok (by omega) hl hlr
    have h2 : gwB ts (some a, some b) rs s.1 s.2 = false := by
      rw [Bool.eq_false_iff]
      intro z
      exact hf _ _ ((gw_iff hok _ _).mp z)
    rw [h2] at h1
    exact h1
  have g1 := gw s1 hs1
  have g2 := gw s2 hs2
  have gl : d_goes_with [.val (eG ts), .val (eS (some a, some b)), .val (eQ rs), .val (.lst [.int s1.1, eRow s1.2])] = _ := t_gwL _ _ _ _
  have hlist : O.list [eP s1] = some (.n (.lst [.int s1.1, eRow s1.2])) := rfl
  refine gd (sl1 := [some (.bref (.lst u2)), v (eG ts), v (eS (some a, some b)), v (eQ rs), v (.lst [eP s1, eP s2]), some (.own (.lst [])), v (.int (ts.length : Nat)), v .non, some (.own (.lst [.bl false, .bl false, .bl false])), v (eI o), k10, none, none, none, none, none, none, none, none, none, none, none, none, none, none]) (by simp [ev_lc, lcrun_cons, g1, g2, gl, hlist, -O.list]) ?_
  have y1 := lay_eP 6 s1
  have y2 := lay_eP 6 s2
  have hs3 := hsame (.lst [.bl false, .bl false, .bl false]) (by simp [sm, smL])
  refine gd (nxF (sl1 := [some (.bref (.lst u2)), v (eG ts), v (eS (some a, some b)), v (eQ rs), v (.lst [eP s1, eP s2]), some (.own (.lst [])), v (.int (ts.length : Nat)), v .non, v (.lst [.bl false, .bl false, .bl false]), v (eI o), k10, none, none, none, none, none, none, none, none, none, none, none, none, none, none]) (by simp [ev_lc, lcrun_cons, y1, y2, hs3]) rfl) ?_
  refine ⟨[some (.bref (.lst u2)), v (eG ts), v (eS (some a, some b)), v (eQ rs), v (.lst [eP s1, eP s2]), some (.own (.lst [])), v (.int (ts.length : Nat)), v .non, v (.lst [.bl false, .bl false, .bl false]), v (eI o), k10, none, none, none, none, none, none, none, none, none, none, none, none, none, none], by simp, rfl⟩
end RF.L
set_option maxRecDepth 100000
set_option maxHeartbeats 4000000
namespace RF.L
open PySem RF RF.C
/-! ### _law_halves_right -/
@[simp] theorem noneD_eP (p : Int × List Ev) : noneD (eP p) = false := rfl
@[simp] theorem noneD_L (l : List D) : noneD (.lst l) = false := rfl
theorem hv_body {ts : List Tri} {s : S2} {rs : List Rd} (hok : okRs ts.length rs) (hl : ts.length < 1000) (hlr : rs.length < 60) {p : Int × List Ev} (f : Fit ts s rs p.1 p.2) (d0 d1 d2 d4 d5 d6 d7 d8 d9 d10 d12 d15 d16 d17 d18 : Option SV) (h17 : frB d17 = true) :
    (C.seq (C.ifS (C.tor (C.tv (C.bin O.notN (C.ucallM [] d_goes_with (C.acons (C.var 13) (C.acons (C.var 14) (C.acons (C.var 3) (C.acons (C.var 11) C.anil))))) (C.const (.bl true)))) (C.tv (C.bin O.notN (C.ucallM [] d_fits_guess (C.acons (C.var 13) (C.acons (C.bin O.ix (C.var 11) (C.const (.int (1)))) C.anil))) (C.const (.bl true))))) (C.ret (C.const (.bl false))) C.pass)
    (C.seq (C.set 17 (C.ucallM [] d_levels_of (C.acons (C.bin O.ix (C.var 11) (C.const (.int (1)))) (C.acons (C.bin O.ix (C.var 11) (C.const (.int (0)))) C.anil))))
    (C.ifS (C.tor (C.tv (C.bin O.ne (C.lc (C.iter (C.var 3)) (C.gtup 2 (C.gcons (C.gname 19) (C.gcons (C.gname 20) C.gnil))) (C.tv (C.bin O.ne (C.bin O.ix (C.var 17) (C.var 19)) (C.var 20))) (C.const (.int (1))) [19, 20]) (C.lst C.anil))) (C.tnot (C.tru (C.ucallM [] d__law_inside (C.acons (C.var 14) (C.acons (C.bin O.ix (C.var 11) (C.const (.int (0)))) C.anil)))))) (C.ret (C.const (.bl false))) C.pass)))
    [d0, d1, d2, v (eQ rs), d4, d5, d6, d7, d8, d9, d10, v (eP p), d12, v (eG ts), v (eS s), d15, d16, d17, d18, none, none] = .nx [d0, d1, d2, v (eQ rs), d4, d5, d6, d7, d8, d9, d10, v (eP p), d12, v (eG ts), v (eS s), d15, d16, some (.own (.lst ((levT p.1 p.2).map D.int))), d18, none, none] := by
  have f2 := (fit_iff hok _ _).mp f
  have fl := fg_len f2.2.1
  have h1 := t_gw (is2_to eT (fun _ => .inl rfl) ts) (is2_to eR (fun _ => .inl rfl) rs) s p.1 p.2 hok hl (by omega) hlr
  rw [(gw_iff hok _ _).mpr f] at h1
  have h1 : d_goes_with [.val (eG ts), .val (eS s), .val (eQ rs), .val (.tup [.int p.1, eRow p.2])] = _ := h1
  have h2 := t_fits (is2_to eT (fun _ => .inl rfl) ts) p.2 (by omega)
  rw [f2.2.1] at h2
  have h2 : d_fits_guess [.val (eG ts), .val (eRow p.2)] = _ := h2
  have h3 := t_levelsA p.2 p.1 (by omega)
  have h4 := t_inside s p.1
  rw [(inB_iff s p.1).mpr f2.1] at h4
  have lc : C.lc (C.iter (C.var 3)) (C.gtup 2 (C.gcons (C.gname 19) (C.gcons (C.gname 20) C.gnil))) (C.tv (C.bin O.ne (C.bin O.ix (C.var 17) (C.var 19)) (C.var 20))) (C.const (.int (1))) [19, 20]
      [d0, d1, d2, v (eQ rs), d4, d5, d6, d7, d8, d9, d10, v (.tup [.int p.1, eRow p.2]), d12, v (eG ts), v (eS s), d15, d16, some (.own (.lst ((levT p.1 p.2).map D.int))), d18, none, none] = .ok (.n (.lst [])) [d0, d1, d2, v (eQ rs), d4, d5, d6, d7, d8, d9, d10, v (.tup [.int p.1, eRow p.2]), d12, v (eG ts), v (eS s), d15, d16, some (.own (.lst ((levT p.1 p.2).map D.int))), d18, none, none] := by
    have := lc_is (P := fun d (r : Rd) => d = eR r) (it := C.iter (C.var 3)) (g := C.gtup 2 (C.gcons (C.gname 19) (C.gcons (C.gname 20) C.gnil))) (t := C.tv (C.bin O.ne (C.bin O.ix (C.var 17) (C.var 19)) (C.var 20))) (e := C.const (.int (1))) (vs := [19, 20])
      (sl := [d0, d1, d2, v (eQ rs), d4, d5, d6, d7, d8, d9, d10, v (.tup [.int p.1, eRow p.2]), d12, v (eG ts), v (eS s), d15, d16, some (.own (.lst ((levT p.1 p.2).map D.int))), d18, none, none])
      (sl1 := [d0, d1, d2, v (eQ rs), d4, d5, d6, d7, d8, d9, d10, v (.tup [.int p.1, eRow p.2]), d12, v (eG ts), v (eS s), d15, d16, some (.own (.lst ((levT p.1 p.2).map D.int))), d18, none, none]) (as := rs) (fun _ => false) (fun _ => .int 1) (ds := rs.map eR) (by simp [eQ]) (is2_map _ _) (by rw [List.length_map]; omega) (fun d r hd hr => by
        subst hd
        have h5 := f2.2.2 r hr
        unfold RdOk at h5
        obtain ⟨y, hy, hx⟩ := lev_atD (x := p.1) (es := p.2) (hok r hr).1 (by rw [fl]; exact (hok r hr).2)
        rw [hy] at h5
        cases h5
        exact ⟨[d0, d1, d2, v (eQ rs), d4, d5, d6, d7, d8, d9, d10, v (.tup [.int p.1, eRow p.2]), d12, v (eG ts), v (eS s), d15, d16, some (.own (.lst ((levT p.1 p.2).map D.int))), d18, v (.int r.1), v (.int r.2)], by simp [eR], by simp [hx], rfl, fun z => by cases z⟩)
    have f0 : rs.filter (fun _ => false) = [] := by rw [List.filter_eq_nil_iff]; simp
    rw [f0] at this
    exact this
  show C.seq _ _ [d0, d1, d2, v (eQ rs), d4, d5, d6, d7, d8, d9, d10, v (.tup [.int p.1, eRow p.2]), d12, v (eG ts), v (eS s), d15, d16, d17, d18, none, none] = .nx [d0, d1, d2, v (eQ rs), d4, d5, d6, d7, d8, d9, d10, v (.tup [.int p.1, eRow p.2]), d12, v (eG ts), v (eS s), d15, d16, some (.own (.lst ((levT p.1 p.2).map D.int))), d18, none, none]
  simp [-free?, ev_free, h17, h1, h2, h3, h4, lc]
theorem hv_NN {n : Nat} {u : List D} (hu : Urn n u) (hn : n < 900000) {ts ts1 ts2 : List Tri} {s s1 s2 : S2} {rs : List Rd} {th : Int × List Ev} (P : Parts ts s ts1 s1 ts2 s2) (hok : okRs ts.length rs) (hl : ts.length < 900) (hlr : rs.length < 60) (hth : th.2.length < 1000)
    (T1 : ToldN (eG ts1) (eQ rs) ts1 s1 rs) (T2 : ToldN (eG ts2) (eQ rs) ts2 s2 rs) (Tw : ∀ dg dr, IsQ IsT dg ts → IsQ IsR dr rs → ToldN dg dr ts s rs)  {o1 o2 : Option Int} (f1 : d_first_wrong [.val (eG ts1), .val (eS s1), .val (eQ rs)] = R (eI o1) [eG ts1, eS s1, eQ rs]) (f2 : d_first_wrong [.val (eG ts2), .val (eS s2), .val (eQ rs)] = R (eI o2) [eG ts2, eS s2, eQ rs])
    (fw : d_first_wrong [.val (eG ts), .val (eS s), .val (eQ rs)] = R (eI (laterT o1 o2)) [eG ts, eS s, eQ rs]) : ∃ u', Urn (n + 2) u' ∧ d__law_halves_right [.bref (.lst u), .val (.tup [eG ts, eS s]), .val (.lst [.tup [eG ts1, eS s1], .tup [eG ts2, eS s2]]), .val (eQ rs), .val (eP th)] = .ok (.v (.bl true)) [some (.bref (.lst u')), v (.tup [eG ts, eS s]), v (.lst [.tup [eG ts1, eS s1], .tup [eG ts2, eS s2]]), v (eQ rs), v (eP th)] := by
  obtain ⟨u1, dg, hu1, hdg, sg⟩ := t_softG hu (by omega) ts (by omega)
  obtain ⟨u2, dr, hu2, hdr, sr⟩ := t_softR hu1 (by omega) rs (by omega)
  have sg : SoftR u1 (eG ts) dg (d__law_soft [.bref (.lst u), .val (eG ts)]) := sg
  have sr : SoftR u2 (eQ rs) dr (d__law_soft [.bref (.lst u1), .val (eQ rs)]) := sr
  have Ta := Tw dg (eQ rs) hdg (isR' rs)
  have Tb := Tw (eG ts) dr (isG' ts) hdr
  have T0 := Tw (eG ts) (eQ rs) (isG' ts) (isR' rs)
  have hsame : ∀ d, sm 7 d = true → d__law_same 8 [.val d, .val d] = R (.bl true) [d, d] := fun d h => t_same 7 d h
  have j1 := t_joinNN
  have go1 := T1.go
  have go2 := T2.go
  have gow := T0.go
  refine ⟨u2, hu2, ?_⟩
  refine good_body [.tup [eG ts, eS s], .lst [.tup [eG ts1, eS s1], .tup [eG ts2, eS s2]], eQ rs, eP th] rfl ?_
  show Good u2 (b__law_halves_right [some (.bref (.lst u)), v (.tup [eG ts, eS s]), v (.lst [.tup [eG ts1, eS s1], .tup [eG ts2, eS s2]]), v (eQ rs), v (eP th), none, none, none, none, none, none, none, none, none, none, none, none, none, none, none, none])
  unfold b__law_halves_right
  refine gd (sl1 := [some (.bref (.lst u)), v (.tup [eG ts, eS s]), v (.lst [.tup [eG ts1, eS s1], .tup [eG ts2, eS s2]]), v (eQ rs), v (eP th), none, none, none, none, none, none, none, none, v (eG ts), v (eS s), none, none, none, none, none, none]) (by simp) ?_
  refine gd (sl1 := [some (.bref (.lst u)), v (.tup [eG ts, eS s]), v (.lst [.tup [eG ts1, eS s1], .tup [eG ts2, eS s2]]), v (eQ rs), v (eP th), some (.own (.lst [.non, .non])), none, none, none, none, none, none, none, v (eG ts), v (eS s), none, none, none, none, none, none]) (by simp [ev_lc, lcrun_cons, T1.lev, T2.lev]) ?_
  refine gd (sl1 := [some (.bref (.lst u)), v (.tup [eG ts, eS s]), v (.lst [.tup [eG ts1, eS s1], .tup [eG ts2, eS s2]]), v (eQ rs), v (eP th), some (.own (.lst [.non, .non])), some (.own (.lst [.non, .non])), none, none, none, none, none, none, v (eG ts), v (eS s), none, none, none, none, none, none]) (by simp [ev_lc, lcrun_cons, T1.num, T2.num]) ?_
  refine gd (sl1 := [some (.bref (.lst u)), v (.tup [eG ts, eS s]), v (.lst [.tup [eG ts1, eS s1], .tup [eG ts2, eS s2]]), v (eQ rs), v (eP th), some (.own (.lst [.non, .non])), some (.own (.lst [.non, .non])), v .non, none, none, none, none, none, v (eG ts), v (eS s), none, none, none, none, none, none]) (by simp [j1]) ?_
  refine gd (sl1 := [some (.bref (.lst u2)), v (.tup [eG ts, eS s]), v (.lst [.tup [eG ts1, eS s1], .tup [eG ts2, eS s2]]), v (eQ rs), v (eP th), some (.own (.lst [.non, .non])), some (.own (.lst [.non, .non])), v .non, some (.own (.lst [.non, .non, eI (laterT o1 o2)])), none, none, none, none, v (eG ts), v (eS s), none, none, none, none, none, none]) (by
    have h0 := Ta.lev
    have h1 := Tb.num
    rcases sg with g | ⟨l, e, g⟩ <;> rcases sr with r | ⟨m, e2, r⟩ <;> (try rw [e] at h0) <;> (try rw [e2] at h1) <;> simp [g, r, h0, h1, fw]) ?_
  refine gd (sl1 := [some (.bref (.lst u2)), v (.tup [eG ts, eS s]), v (.lst [.tup [eG ts1, eS s1], .tup [eG ts2, eS s2]]), v (eQ rs), v (eP th), some (.own (.lst [.non, .non])), some (.own (.lst [.non, .non])), v .non, some (.own (.lst [.non, .non, eI (laterT o1 o2)])), some (.own (.lst [.non, .non, eI (laterT o1 o2)])), none, none, none, v (eG ts), v (eS s), none, none, none, none, none, none]) (by simp [j1, f1, f2, t_later]) ?_
  have sz := hsame (.lst [.non, .non, eI (laterT o1 o2)]) (by
    have k3 := sm_eI 6 (laterT o1 o2)
    simp [sm, smL, k3])
  refine gd (nxF (sl1 := [some (.bref (.lst u2)), v (.tup [eG ts, eS s]), v (.lst [.tup [eG ts1, eS s1], .tup [eG ts2, eS s2]]), v (eQ rs), v (eP th), some (.own (.lst [.non, .non])), some (.own (.lst [.non, .non])), v .non, v (.lst [.non, .non, eI (laterT o1 o2)]), v (.lst [.non, .non, eI (laterT o1 o2)]), none, none, none, v (eG ts), v (eS s), none, none, none, none, none, none]) (by simp [sz]) rfl) ?_
  refine gd (sl1 := [some (.bref (.lst u2)), v (.tup [eG ts, eS s]), v (.lst [.tup [eG ts1, eS s1], .tup [eG ts2, eS s2]]), v (eQ rs), v (eP th), some (.own (.lst [.non, .non])), some (.own (.lst [.non, .non])), v .non, v (.lst [.non, .non, eI (laterT o1 o2)]), v (.lst [.non, .non, eI (laterT o1 o2)]), v .non, none, none, v (eG ts), v (eS s), none, none, none, none, none, none]) (by simp) ?_
  refine gd (sl1 := [some (.bref (.lst u2)), v (.tup [eG ts, eS s]), v (.lst [.tup [eG ts1, eS s1], .tup [eG ts2, eS s2]]), v (eQ rs), v (eP th), some (.own (.lst [.non, .non])), some (.own (.lst [.non, .non])), v .non, v (.lst [.non, .non, eI (laterT o1 o2)]), v (.lst [.non, .non, eI (laterT o1 o2)]), v .non, none, none, v (eG ts), v (eS s), v .non, some (.own (.lst [.non, .non])), none, none, none, none]) (by simp [ev_lc, lcrun_cons, go1, go2, gow]) ?_
  have sz2 := hsame (.lst [.non, .bl true]) (by
    simp [sm, smL])
  refine gd (nxF (sl1 := [some (.bref (.lst u2)), v (.tup [eG ts, eS s]), v (.lst [.tup [eG ts1, eS s1], .tup [eG ts2, eS s2]]), v (eQ rs), v (eP th), some (.own (.lst [.non, .non])), some (.own (.lst [.non, .non])), v .non, v (.lst [.non, .non, eI (laterT o1 o2)]), v (.lst [.non, .non, eI (laterT o1 o2)]), v .non, none, none, v (eG ts), v (eS s), v .non, some (.own (.lst [.non, .non])), none, none, none, none]) (by simp [T0.set, sz2]) rfl) ?_
  have lcF : C.iter (C.lc (C.iter (C.bin O.add (C.var 16) (C.lst (C.acons (C.var 15) C.anil)))) (C.gname 11) (C.tv (C.bin O.notN (C.var 11) (C.const (.non)))) (C.var 11) [11]) [some (.bref (.lst u2)), v (.tup [eG ts, eS s]), v (.lst [.tup [eG ts1, eS s1], .tup [eG ts2, eS s2]]), v (eQ rs), v (eP th), some (.own (.lst [.non, .non])), some (.own (.lst [.non, .non])), v .non, v (.lst [.non, .non, eI (laterT o1 o2)]), v (.lst [.non, .non, eI (laterT o1 o2)]), v .non, none, none, v (eG ts), v (eS s), v .non, some (.own (.lst [.non, .non])), none, none, none, none] = .ok [] [some (.bref (.lst u2)), v (.tup [eG ts, eS s]), v (.lst [.tup [eG ts1, eS s1], .tup [eG ts2, eS s2]]), v (eQ rs), v (eP th), some (.own (.lst [.non, .non])), some (.own (.lst [.non, .non])), v .non, v (.lst [.non, .non, eI (laterT o1 o2)]), v (.lst [.non, .non, eI (laterT o1 o2)]), v .non, none, none, v (eG ts), v (eS s), v .non, some (.own (.lst [.non, .non])), none, none, none, none] := by
    simp [ev_lc, lcrun_cons]
  refine gd (sl1 := [some (.bref (.lst u2)), v (.tup [eG ts, eS s]), v (.lst [.tup [eG ts1, eS s1], .tup [eG ts2, eS s2]]), v (eQ rs), v (eP th), some (.own (.lst [.non, .non])), some (.own (.lst [.non, .non])), v .non, v (.lst [.non, .non, eI (laterT o1 o2)]), v (.lst [.non, .non, eI (laterT o1 o2)]), v .non, none, none, v (eG ts), v (eS s), v .non, some (.own (.lst [.non, .non])), none, none, none, none]) (forS_of lcF (by
    rfl)) ?_
  have g1 : d_goes_with [.val (eG ts1), .val (eS s1), .val (eQ rs), .val (eP th)] = R (.bl (gwB ts1 s1 rs th.1 th.2)) [eG ts1, eS s1, eQ rs, eP th] := t_gw (is2_to eT (fun _ => .inl rfl) ts1) (is2_to eR (fun _ => .inl rfl) rs) s1 th.1 th.2 (by rw [P.l1]; exact hok) (by rw [P.l1]; omega) hth hlr
  have g2 : d_goes_with [.val (eG ts2), .val (eS s2), .val (eQ rs), .val (eP th)] = R (.bl (gwB ts2 s2 rs th.1 th.2)) [eG ts2, eS s2, eQ rs, eP th] := t_gw (is2_to eT (fun _ => .inl rfl) ts2) (is2_to eR (fun _ => .inl rfl) rs) s2 th.1 th.2 (by rw [P.l2]; exact hok) (by rw [P.l2]; omega) hth hlr
  have g3 : d_goes_with [.val (eG ts), .val (eS s), .val (eQ rs), .val (eP th)] = R (.bl (gwB ts s rs th.1 th.2)) [eG ts, eS s, eQ rs, eP th] := t_gw (is2_to eT (fun _ => .inl rfl) ts) (is2_to eR (fun _ => .inl rfl) rs) s th.1 th.2 hok (by omega) hth hlr
  have gg : gwB ts s rs th.1 th.2 = (gwB ts1 s1 rs th.1 th.2 || gwB ts2 s2 rs th.1 th.2) := by
    rw [Bool.eq_iff_iff, Bool.or_eq_true, gw_iff hok, gw_iff (by rw [P.l1]; exact hok), gw_iff (by rw [P.l2]; exact hok)]
    exact P.fit hok _ _
  rw [gg] at g3
  generalize gwB ts1 s1 rs th.1 th.2 = B1 at g1 g3
  generalize gwB ts2 s2 rs th.1 th.2 = B2 at g2 g3
  refine gd (sl1 := [some (.bref (.lst u2)), v (.tup [eG ts, eS s]), v (.lst [.tup [eG ts1, eS s1], .tup [eG ts2, eS s2]]), v (eQ rs), v (eP th), some (.own (.lst [.non, .non])), some (.own (.lst [.non, .non])), v .non, v (.lst [.non, .non, eI (laterT o1 o2)]), v (.lst [.non, .non, eI (laterT o1 o2)]), v .non, none, some (.own (.lst [.bl (B1), .bl (B2)])), v (eG ts), v (eS s), v .non, some (.own (.lst [.non, .non])), none, none, none, none]) (by simp [ev_lc, lcrun_cons, g1, g2]) ?_
  have sz3 := hsame (.bl (B1 || B2)) rfl
  have anyB : (([D.bl B1, .bl B2].any fun z => D.eqv z (.bl true))) = (B1 || B2) := by cases B1 <;> cases B2 <;> rfl
  refine gdR (sl1 := [some (.bref (.lst u2)), v (.tup [eG ts, eS s]), v (.lst [.tup [eG ts1, eS s1], .tup [eG ts2, eS s2]]), v (eQ rs), v (eP th), some (.own (.lst [.non, .non])), some (.own (.lst [.non, .non])), v .non, v (.lst [.non, .non, eI (laterT o1 o2)]), v (.lst [.non, .non, eI (laterT o1 o2)]), v .non, none, some (.own (.lst [.bl (B1), .bl (B2)])), v (eG ts), v (eS s), v .non, some (.own (.lst [.non, .non])), none, none, none, none]) (by
    cases B1 <;> cases B2 <;> simp [g3] at sz3 g3 ⊢ <;> simp [g3, sz3]) rfl
theorem hv_NY {n : Nat} {u : List D} (hu : Urn n u) (hn : n < 900000) {ts ts1 ts2 : List Tri} {s s1 s2 : S2} {rs : List Rd} {th : Int × List Ev} {ls ns : List S2} {pw : Int × List Ev} {ls2 ns2 : List S2} {p2 : Int × List Ev} (P : Parts ts s ts1 s1 ts2 s2) (hok : okRs ts.length rs) (hl : ts.length < 900) (hlr : rs.length < 60) (hth : th.2.length < 1000)
    (T1 : ToldN (eG ts1) (eQ rs) ts1 s1 rs) (T2 : ToldY (eG ts2) (eQ rs) ts2 s2 rs ls2 ns2 p2.1 p2.2) (Tw : ∀ dg dr, IsQ IsT dg ts → IsQ IsR dr rs → ToldY dg dr ts s rs ls ns pw.1 pw.2) (hll : ls2 = ls) (hnn : ns2 = ns) {o1 o2 : Option Int} (f1 : d_first_wrong [.val (eG ts1), .val (eS s1), .val (eQ rs)] = R (eI o1) [eG ts1, eS s1, eQ rs]) (f2 : d_first_wrong [.val (eG ts2), .val (eS s2), .val (eQ rs)] = R (eI o2) [eG ts2, eS s2, eQ rs])
    (fw : d_first_wrong [.val (eG ts), .val (eS s), .val (eQ rs)] = R (eI (laterT o1 o2)) [eG ts, eS s, eQ rs]) : ∃ u', Urn (n + 2) u' ∧ d__law_halves_right [.bref (.lst u), .val (.tup [eG ts, eS s]), .val (.lst [.tup [eG ts1, eS s1], .tup [eG ts2, eS s2]]), .val (eQ rs), .val (eP th)] = .ok (.v (.bl true)) [some (.bref (.lst u')), v (.tup [eG ts, eS s]), v (.lst [.tup [eG ts1, eS s1], .tup [eG ts2, eS s2]]), v (eQ rs), v (eP th)] := by
  obtain ⟨u1, dg, hu1, hdg, sg⟩ := t_softG hu (by omega) ts (by omega)
  obtain ⟨u2, dr, hu2, hdr, sr⟩ := t_softR hu1 (by omega) rs (by omega)
  have sg : SoftR u1 (eG ts) dg (d__law_soft [.bref (.lst u), .val (eG ts)]) := sg
  have sr : SoftR u2 (eQ rs) dr (d__law_soft [.bref (.lst u1), .val (eQ rs)]) := sr
  have Ta := Tw dg (eQ rs) hdg (isR' rs)
  have Tb := Tw (eG ts) dr (isG' ts) hdr
  have T0 := Tw (eG ts) (eQ rs) (isG' ts) (isR' rs)
  have hsame : ∀ d, sm 7 d = true → d__law_same 8 [.val d, .val d] = R (.bl true) [d, d] := fun d h => t_same 7 d h
  subst hll hnn
  have j1 := t_joinNL (ls2.map eS)
  have j2 := t_joinNL (ns2.map eS)
  have go1 := T1.go
  have go2 : d_going [.val (eG ts2), .val (eS s2), .val (eQ rs)] = R (eP p2) [eG ts2, eS s2, eQ rs] := T2.go
  have gow : d_going [.val (eG ts), .val (eS s), .val (eQ rs)] = R (eP pw) [eG ts, eS s, eQ rs] := T0.go
  refine ⟨u2, hu2, ?_⟩
  refine good_body [.tup [eG ts, eS s], .lst [.tup [eG ts1, eS s1], .tup [eG ts2, eS s2]], eQ rs, eP th] rfl ?_
  show Good u2 (b__law_halves_right [some (.bref (.lst u)), v (.tup [eG ts, eS s]), v (.lst [.tup [eG ts1, eS s1], .tup [eG ts2, eS s2]]), v (eQ rs), v (eP th), none, none, none, none, none, none, none, none, none, none, none, none, none, none, none, none])
  unfold b__law_halves_right
  refine gd (sl1 := [some (.bref (.lst u)), v (.tup [eG ts, eS s]), v (.lst [.tup [eG ts1, eS s1], .tup [eG ts2, eS s2]]), v (eQ rs), v (eP th), none, none, none, none, none, none, none, none, v (eG ts), v (eS s), none, none, none, none, none, none]) (by simp) ?_
  refine gd (sl1 := [some (.bref (.lst u)), v (.tup [eG ts, eS s]), v (.lst [.tup [eG ts1, eS s1], .tup [eG ts2, eS s2]]), v (eQ rs), v (eP th), some (.own (.lst [.non, (.lst (ls2.map eS))])), none, none, none, none, none, none, none, v (eG ts), v (eS s), none, none, none, none, none, none]) (by simp [ev_lc, lcrun_cons, T1.lev, T2.lev]) ?_
  refine gd (sl1 := [some (.bref (.lst u)), v (.tup [eG ts, eS s]), v (.lst [.tup [eG ts1, eS s1], .tup [eG ts2, eS s2]]), v (eQ rs), v (eP th), some (.own (.lst [.non, (.lst (ls2.map eS))])), some (.own (.lst [.non, (.lst (ns2.map eS))])), none, none, none, none, none, none, v (eG ts), v (eS s), none, none, none, none, none, none]) (by simp [ev_lc, lcrun_cons, T1.num, T2.num]) ?_
  refine gd (sl1 := [some (.bref (.lst u)), v (.tup [eG ts, eS s]), v (.lst [.tup [eG ts1, eS s1], .tup [eG ts2, eS s2]]), v (eQ rs), v (eP th), some (.own (.lst [.non, (.lst (ls2.map eS))])), some (.own (.lst [.non, (.lst (ns2.map eS))])), v (.lst (ls2.map eS)), none, none, none, none, none, v (eG ts), v (eS s), none, none, none, none, none, none]) (by simp [j1]) ?_
  refine gd (sl1 := [some (.bref (.lst u2)), v (.tup [eG ts, eS s]), v (.lst [.tup [eG ts1, eS s1], .tup [eG ts2, eS s2]]), v (eQ rs), v (eP th), some (.own (.lst [.non, (.lst (ls2.map eS))])), some (.own (.lst [.non, (.lst (ns2.map eS))])), v (.lst (ls2.map eS)), some (.own (.lst [(.lst (ls2.map eS)), (.lst (ns2.map eS)), eI (laterT o1 o2)])), none, none, none, none, v (eG ts), v (eS s), none, none, none, none, none, none]) (by
    have h0 := Ta.lev
    have h1 := Tb.num
    rcases sg with g | ⟨l, e, g⟩ <;> rcases sr with r | ⟨m, e2, r⟩ <;> (try rw [e] at h0) <;> (try rw [e2] at h1) <;> simp [g, r, h0, h1, fw]) ?_
  refine gd (sl1 := [some (.bref (.lst u2)), v (.tup [eG ts, eS s]), v (.lst [.tup [eG ts1, eS s1], .tup [eG ts2, eS s2]]), v (eQ rs), v (eP th), some (.own (.lst [.non, (.lst (ls2.map eS))])), some (.own (.lst [.non, (.lst (ns2.map eS))])), v (.lst (ls2.map eS)), some (.own (.lst [(.lst (ls2.map eS)), (.lst (ns2.map eS)), eI (laterT o1 o2)])), some (.own (.lst [(.lst (ls2.map eS)), (.lst (ns2.map eS)), eI (laterT o1 o2)])), none, none, none, v (eG ts), v (eS s), none, none, none, none, none, none]) (by simp [j2, f1, f2, t_later]) ?_
  have sz := hsame (.lst [(.lst (ls2.map eS)), (.lst (ns2.map eS)), eI (laterT o1 o2)]) (by
    have k1 := sm_ls 4 ls2 (by rw [T0.lv.ll]; omega)
    have k2 := sm_ls 4 ns2 (by rw [T0.lv.nl]; omega)
    have k3 := sm_eI 6 (laterT o1 o2)
    simp [sm, smL] at k1 k2 k3 ⊢
    simp [k1, k2, k3])
  refine gd (nxF (sl1 := [some (.bref (.lst u2)), v (.tup [eG ts, eS s]), v (.lst [.tup [eG ts1, eS s1], .tup [eG ts2, eS s2]]), v (eQ rs), v (eP th), some (.own (.lst [.non, (.lst (ls2.map eS))])), some (.own (.lst [.non, (.lst (ns2.map eS))])), v (.lst (ls2.map eS)), v (.lst [(.lst (ls2.map eS)), (.lst (ns2.map eS)), eI (laterT o1 o2)]), v (.lst [(.lst (ls2.map eS)), (.lst (ns2.map eS)), eI (laterT o1 o2)]), none, none, none, v (eG ts), v (eS s), none, none, none, none, none, none]) (by simp [sz]) rfl) ?_
  have lcE : C.lc (C.iterA W.enum (C.acons (C.var 7) C.anil)) (C.gtup 2 (C.gcons (C.gname 18) (C.gcons (C.gname 11) C.gnil))) (C.tand (C.tv (C.bin O.notN (C.bin O.ix (C.var 11) (C.const (.int (0)))) (C.const (.non)))) (C.tv (C.bin O.eq (C.bin O.ix (C.var 11) (C.const (.int (0)))) (C.bin O.ix (C.var 11) (C.const (.int (1))))))) (C.var 18) [18, 11] [some (.bref (.lst u2)), v (.tup [eG ts, eS s]), v (.lst [.tup [eG ts1, eS s1], .tup [eG ts2, eS s2]]), v (eQ rs), v (eP th), some (.own (.lst [.non, (.lst (ls2.map eS))])), some (.own (.lst [.non, (.lst (ns2.map eS))])), v (.lst (ls2.map eS)), v (.lst [(.lst (ls2.map eS)), (.lst (ns2.map eS)), eI (laterT o1 o2)]), v (.lst [(.lst (ls2.map eS)), (.lst (ns2.map eS)), eI (laterT o1 o2)]), none, none, none, v (eG ts), v (eS s), none, none, none, none, none, none] = .ok (.n (.lst (eN (settledT ls2)))) [some (.bref (.lst u2)), v (.tup [eG ts, eS s]), v (.lst [.tup [eG ts1, eS s1], .tup [eG ts2, eS s2]]), v (eQ rs), v (eP th), some (.own (.lst [.non, (.lst (ls2.map eS))])), some (.own (.lst [.non, (.lst (ns2.map eS))])), v (.lst (ls2.map eS)), v (.lst [(.lst (ls2.map eS)), (.lst (ns2.map eS)), eI (laterT o1 o2)]), v (.lst [(.lst (ls2.map eS)), (.lst (ns2.map eS)), eI (laterT o1 o2)]), none, none, none, v (eG ts), v (eS s), none, none, none, none, none, none] := by
    have := lc_is (P := fun d (p : S2 × Nat) => d = .tup [.int (p.2 : Nat), eS p.1]) (it := C.iterA W.enum (C.acons (C.var 7) C.anil)) (g := C.gtup 2 (C.gcons (C.gname 18) (C.gcons (C.gname 11) C.gnil))) (t := C.tand (C.tv (C.bin O.notN (C.bin O.ix (C.var 11) (C.const (.int (0)))) (C.const (.non)))) (C.tv (C.bin O.eq (C.bin O.ix (C.var 11) (C.const (.int (0)))) (C.bin O.ix (C.var 11) (C.const (.int (1))))))) (e := C.var 18) (vs := [18, 11])
      (sl := [some (.bref (.lst u2)), v (.tup [eG ts, eS s]), v (.lst [.tup [eG ts1, eS s1], .tup [eG ts2, eS s2]]), v (eQ rs), v (eP th), some (.own (.lst [.non, (.lst (ls2.map eS))])), some (.own (.lst [.non, (.lst (ns2.map eS))])), v (.lst (ls2.map eS)), v (.lst [(.lst (ls2.map eS)), (.lst (ns2.map eS)), eI (laterT o1 o2)]), v (.lst [(.lst (ls2.map eS)), (.lst (ns2.map eS)), eI (laterT o1 o2)]), none, none, none, v (eG ts), v (eS s), none, none, none, none, none, none]) (sl1 := [some (.bref (.lst u2)), v (.tup [eG ts, eS s]), v (.lst [.tup [eG ts1, eS s1], .tup [eG ts2, eS s2]]), v (eQ rs), v (eP th), some (.own (.lst [.non, (.lst (ls2.map eS))])), some (.own (.lst [.non, (.lst (ns2.map eS))])), v (.lst (ls2.map eS)), v (.lst [(.lst (ls2.map eS)), (.lst (ns2.map eS)), eI (laterT o1 o2)]), v (.lst [(.lst (ls2.map eS)), (.lst (ns2.map eS)), eI (laterT o1 o2)]), none, none, none, v (eG ts), v (eS s), none, none, none, none, none, none]) (as := ls2.zipIdx) (fun p => stB p.1) (fun p => .int (p.2 : Nat)) (ds := enumD 0 (ls2.map eS)) (by simp) (by rw [enumD_map]; exact is2_map _ _) (by rw [enumD_len, List.length_map, T0.lv.ll]; omega) (fun d p hd hp => by
        subst hd
        rcases p with ⟨⟨a, b⟩, i⟩
        refine ⟨[some (.bref (.lst u2)), v (.tup [eG ts, eS s]), v (.lst [.tup [eG ts1, eS s1], .tup [eG ts2, eS s2]]), v (eQ rs), v (eP th), some (.own (.lst [.non, (.lst (ls2.map eS))])), some (.own (.lst [.non, (.lst (ns2.map eS))])), v (.lst (ls2.map eS)), v (.lst [(.lst (ls2.map eS)), (.lst (ns2.map eS)), eI (laterT o1 o2)]), v (.lst [(.lst (ls2.map eS)), (.lst (ns2.map eS)), eI (laterT o1 o2)]), none, v (eS (a, b)), none, v (eG ts), v (eS s), none, none, none, v (.int (i : Nat)), none, none], by simp, ?_, rfl, fun _ => ⟨.v (.int (i : Nat)), [some (.bref (.lst u2)), v (.tup [eG ts, eS s]), v (.lst [.tup [eG ts1, eS s1], .tup [eG ts2, eS s2]]), v (eQ rs), v (eP th), some (.own (.lst [.non, (.lst (ls2.map eS))])), some (.own (.lst [.non, (.lst (ns2.map eS))])), v (.lst (ls2.map eS)), v (.lst [(.lst (ls2.map eS)), (.lst (ns2.map eS)), eI (laterT o1 o2)]), v (.lst [(.lst (ls2.map eS)), (.lst (ns2.map eS)), eI (laterT o1 o2)]), none, v (eS (a, b)), none, v (eG ts), v (eS s), none, none, none, v (.int (i : Nat)), none, none], [some (.bref (.lst u2)), v (.tup [eG ts, eS s]), v (.lst [.tup [eG ts1, eS s1], .tup [eG ts2, eS s2]]), v (eQ rs), v (eP th), some (.own (.lst [.non, (.lst (ls2.map eS))])), some (.own (.lst [.non, (.lst (ns2.map eS))])), v (.lst (ls2.map eS)), v (.lst [(.lst (ls2.map eS)), (.lst (ns2.map eS)), eI (laterT o1 o2)]), v (.lst [(.lst (ls2.map eS)), (.lst (ns2.map eS)), eI (laterT o1 o2)]), none, v (eS (a, b)), none, v (eG ts), v (eS s), none, none, none, v (.int (i : Nat)), none, none], by simp, rfl, rfl⟩⟩
        rcases a with _ | a <;> rcases b with _ | b <;> simp [stB, eS]
        by_cases h : a = b <;> simp [h])
    rw [this]
    unfold settledT eN
    rw [List.map_map]
    rfl
  refine gd (sl1 := [some (.bref (.lst u2)), v (.tup [eG ts, eS s]), v (.lst [.tup [eG ts1, eS s1], .tup [eG ts2, eS s2]]), v (eQ rs), v (eP th), some (.own (.lst [.non, (.lst (ls2.map eS))])), some (.own (.lst [.non, (.lst (ns2.map eS))])), v (.lst (ls2.map eS)), v (.lst [(.lst (ls2.map eS)), (.lst (ns2.map eS)), eI (laterT o1 o2)]), v (.lst [(.lst (ls2.map eS)), (.lst (ns2.map eS)), eI (laterT o1 o2)]), v (.tup (eN (settledT ls2))), none, none, v (eG ts), v (eS s), none, none, none, none, none, none]) (by simp [lcE]) ?_
  refine gd (sl1 := [some (.bref (.lst u2)), v (.tup [eG ts, eS s]), v (.lst [.tup [eG ts1, eS s1], .tup [eG ts2, eS s2]]), v (eQ rs), v (eP th), some (.own (.lst [.non, (.lst (ls2.map eS))])), some (.own (.lst [.non, (.lst (ns2.map eS))])), v (.lst (ls2.map eS)), v (.lst [(.lst (ls2.map eS)), (.lst (ns2.map eS)), eI (laterT o1 o2)]), v (.lst [(.lst (ls2.map eS)), (.lst (ns2.map eS)), eI (laterT o1 o2)]), v (.tup (eN (settledT ls2))), none, none, v (eG ts), v (eS s), v (eP pw), some (.own (.lst [.non, (eP p2)])), none, none, none, none]) (by simp [ev_lc, lcrun_cons, go1, go2, gow]) ?_
  have sz2 := hsame (.lst [(.tup (eN (settledT ls2))), .bl false]) (by
    have k3 := sm_eN 5 (settledT ls2) (by
      unfold settledT
      rw [List.length_map]
      refine Nat.le_trans (List.length_filter_le _ _) ?_
      rw [List.length_zipIdx, T0.lv.ll]; omega)
    simp [sm, smL] at k3 ⊢
    simp [k3])
  have y2 := lay_eP 5 p2
  have q2 : D.eqv (eP p2) .non = false := rfl
  refine gd (nxF (sl1 := [some (.bref (.lst u2)), v (.tup [eG ts, eS s]), v (.lst [.tup [eG ts1, eS s1], .tup [eG ts2, eS s2]]), v (eQ rs), v (eP th), some (.own (.lst [.non, (.lst (ls2.map eS))])), some (.own (.lst [.non, (.lst (ns2.map eS))])), v (.lst (ls2.map eS)), v (.lst [(.lst (ls2.map eS)), (.lst (ns2.map eS)), eI (laterT o1 o2)]), v (.lst [(.lst (ls2.map eS)), (.lst (ns2.map eS)), eI (laterT o1 o2)]), v (.tup (eN (settledT ls2))), none, none, v (eG ts), v (eS s), v (eP pw), some (.own (.lst [.non, (eP p2)])), none, none, none, none]) (by simp [T0.set, sz2, y2, q2]) rfl) ?_
  have b0 := hv_body hok (by omega) hlr (p := p2) ((P.fit hok _ _).mpr (.inr T2.fit)) (some (.bref (.lst u2))) (v (.tup [eG ts, eS s])) (v (.lst [.tup [eG ts1, eS s1], .tup [eG ts2, eS s2]])) (v (eP th)) (some (.own (.lst [.non, (.lst (ls2.map eS))]))) (some (.own (.lst [.non, (.lst (ns2.map eS))]))) (v (.lst (ls2.map eS))) (v (.lst [(.lst (ls2.map eS)), (.lst (ns2.map eS)), eI (laterT o1 o2)])) (v (.lst [(.lst (ls2.map eS)), (.lst (ns2.map eS)), eI (laterT o1 o2)])) (v (.tup (eN (settledT ls2)))) none (v (eP pw)) (some (.own (.lst [.non, (eP p2)]))) (none) none rfl
  have b1 := hv_body hok (by omega) hlr (p := pw) T0.fit (some (.bref (.lst u2))) (v (.tup [eG ts, eS s])) (v (.lst [.tup [eG ts1, eS s1], .tup [eG ts2, eS s2]])) (v (eP th)) (some (.own (.lst [.non, (.lst (ls2.map eS))]))) (some (.own (.lst [.non, (.lst (ns2.map eS))]))) (v (.lst (ls2.map eS))) (v (.lst [(.lst (ls2.map eS)), (.lst (ns2.map eS)), eI (laterT o1 o2)])) (v (.lst [(.lst (ls2.map eS)), (.lst (ns2.map eS)), eI (laterT o1 o2)])) (v (.tup (eN (settledT ls2)))) none (v (eP pw)) (some (.own (.lst [.non, (eP p2)]))) (some (.own (.lst ((levT p2.1 p2.2).map D.int)))) none rfl
  have lcF : C.iter (C.lc (C.iter (C.bin O.add (C.var 16) (C.lst (C.acons (C.var 15) C.anil)))) (C.gname 11) (C.tv (C.bin O.notN (C.var 11) (C.const (.non)))) (C.var 11) [11]) [some (.bref (.lst u2)), v (.tup [eG ts, eS s]), v (.lst [.tup [eG ts1, eS s1], .tup [eG ts2, eS s2]]), v (eQ rs), v (eP th), some (.own (.lst [.non, (.lst (ls2.map eS))])), some (.own (.lst [.non, (.lst (ns2.map eS))])), v (.lst (ls2.map eS)), v (.lst [(.lst (ls2.map eS)), (.lst (ns2.map eS)), eI (laterT o1 o2)]), v (.lst [(.lst (ls2.map eS)), (.lst (ns2.map eS)), eI (laterT o1 o2)]), v (.tup (eN (settledT ls2))), none, none, v (eG ts), v (eS s), v (eP pw), some (.own (.lst [.non, (eP p2)])), none, none, none, none] = .ok [eP p2, eP pw] [some (.bref (.lst u2)), v (.tup [eG ts, eS s]), v (.lst [.tup [eG ts1, eS s1], .tup [eG ts2, eS s2]]), v (eQ rs), v (eP th), some (.own (.lst [.non, (.lst (ls2.map eS))])), some (.own (.lst [.non, (.lst (ns2.map eS))])), v (.lst (ls2.map eS)), v (.lst [(.lst (ls2.map eS)), (.lst (ns2.map eS)), eI (laterT o1 o2)]), v (.lst [(.lst (ls2.map eS)), (.lst (ns2.map eS)), eI (laterT o1 o2)]), v (.tup (eN (settledT ls2))), none, none, v (eG ts), v (eS s), v (eP pw), some (.own (.lst [.non, (eP p2)])), none, none, none, none] := by
    simp [ev_lc, lcrun_cons]
  refine gd (sl1 := [some (.bref (.lst u2)), v (.tup [eG ts, eS s]), v (.lst [.tup [eG ts1, eS s1], .tup [eG ts2, eS s2]]), v (eQ rs), v (eP th), some (.own (.lst [.non, (.lst (ls2.map eS))])), some (.own (.lst [.non, (.lst (ns2.map eS))])), v (.lst (ls2.map eS)), v (.lst [(.lst (ls2.map eS)), (.lst (ns2.map eS)), eI (laterT o1 o2)]), v (.lst [(.lst (ls2.map eS)), (.lst (ns2.map eS)), eI (laterT o1 o2)]), v (.tup (eN (settledT ls2))), v (eP pw), none, v (eG ts), v (eS s), v (eP pw), some (.own (.lst [.non, (eP p2)])), some (.own (.lst ((levT pw.1 pw.2).map D.int))), none, none, none]) (forS_of lcF (by
    refine loop_step ?_ b0 ?_
    · rfl
    refine loop_step ?_ b1 ?_
    · rfl
    rfl)) ?_
  have g1 : d_goes_with [.val (eG ts1), .val (eS s1), .val (eQ rs), .val (eP th)] = R (.bl (gwB ts1 s1 rs th.1 th.2)) [eG ts1, eS s1, eQ rs, eP th] := t_gw (is2_to eT (fun _ => .inl rfl) ts1) (is2_to eR (fun _ => .inl rfl) rs) s1 th.1 th.2 (by rw [P.l1]; exact hok) (by rw [P.l1]; omega) hth hlr
  have g2 : d_goes_with [.val (eG ts2), .val (eS s2), .val (eQ rs), .val (eP th)] = R (.bl (gwB ts2 s2 rs th.1 th.2)) [eG ts2, eS s2, eQ rs, eP th] := t_gw (is2_to eT (fun _ => .inl rfl) ts2) (is2_to eR (fun _ => .inl rfl) rs) s2 th.1 th.2 (by rw [P.l2]; exact hok) (by rw [P.l2]; omega) hth hlr
  have g3 : d_goes_with [.val (eG ts), .val (eS s), .val (eQ rs), .val (eP th)] = R (.bl (gwB ts s rs th.1 th.2)) [eG ts, eS s, eQ rs, eP th] := t_gw (is2_to eT (fun _ => .inl rfl) ts) (is2_to eR (fun _ => .inl rfl) rs) s th.1 th.2 hok (by omega) hth hlr
  have gg : gwB ts s rs th.1 th.2 = (gwB ts1 s1 rs th.1 th.2 || gwB ts2 s2 rs th.1 th.2) := by
    rw [Bool.eq_iff_iff, Bool.or_eq_true, gw_iff hok, gw_iff (by rw [P.l1]; exact hok), gw_iff (by rw [P.l2]; exact hok)]
    exact P.fit hok _ _
  rw [gg] at g3
  generalize gwB ts1 s1 rs th.1 th.2 = B1 at g1 g3
  generalize gwB ts2 s2 rs th.1 th.2 = B2 at g2 g3
  refine gd (sl1 := [some (.bref (.lst u2)), v (.tup [eG ts, eS s]), v (.lst [.tup [eG ts1, eS s1], .tup [eG ts2, eS s2]]), v (eQ rs), v (eP th), some (.own (.lst [.non, (.lst (ls2.map eS))])), some (.own (.lst [.non, (.lst (ns2.map eS))])), v (.lst (ls2.map eS)), v (.lst [(.lst (ls2.map eS)), (.lst (ns2.map eS)), eI (laterT o1 o2)]), v (.lst [(.lst (ls2.map eS)), (.lst (ns2.map eS)), eI (laterT o1 o2)]), v (.tup (eN (settledT ls2))), v (eP pw), some (.own (.lst [.bl (B1), .bl (B2)])), v (eG ts), v (eS s), v (eP pw), some (.own (.lst [.non, (eP p2)])), some (.own (.lst ((levT pw.1 pw.2).map D.int))), none, none, none]) (by simp [ev_lc, lcrun_cons, g1, g2]) ?_
  have sz3 := hsame (.bl (B1 || B2)) rfl
  have anyB : (([D.bl B1, .bl B2].any fun z => D.eqv z (.bl true))) = (B1 || B2) := by cases B1 <;> cases B2 <;> rfl
  refine gdR (sl1 := [some (.bref (.lst u2)), v (.tup [eG ts, eS s]), v (.lst [.tup [eG ts1, eS s1], .tup [eG ts2, eS s2]]), v (eQ rs), v (eP th), some (.own (.lst [.non, (.lst (ls2.map eS))])), some (.own (.lst [.non, (.lst (ns2.map eS))])), v (.lst (ls2.map eS)), v (.lst [(.lst (ls2.map eS)), (.lst (ns2.map eS)), eI (laterT o1 o2)]), v (.lst [(.lst (ls2.map eS)), (.lst (ns2.map eS)), eI (laterT o1 o2)]), v (.tup (eN (settledT ls2))), v (eP pw), some (.own (.lst [.bl (B1), .bl (B2)])), v (eG ts), v (eS s), v (eP pw), some (.own (.lst [.non, (eP p2)])), some (.own (.lst ((levT pw.1 pw.2).map D.int))), none, none, none]) (by
    cases B1 <;> cases B2 <;> simp [g3] at sz3 g3 ⊢ <;> simp [g3, sz3]) rfl
theorem hv_YN {n : Nat} {u : List D} (hu : Urn n u) (hn : n < 900000) {ts ts1 ts2 : List Tri} {s s1 s2 : S2} {rs : List Rd} {th : Int × List Ev} {ls ns : List S2} {pw : Int × List Ev} {ls1 ns1 : List S2} {p1 : Int × List Ev} (P : Parts ts s ts1 s1 ts2 s2) (hok : okRs ts.length rs) (hl : ts.length < 900) (hlr : rs.length < 60) (hth : th.2.length < 1000)
    (T1 : ToldY (eG ts1) (eQ rs) ts1 s1 rs ls1 ns1 p1.1 p1.2) (T2 : ToldN (eG ts2) (eQ rs) ts2 s2 rs) (Tw : ∀ dg dr, IsQ IsT dg ts → IsQ IsR dr rs → ToldY dg dr ts s rs ls ns pw.1 pw.2) (hll : ls1 = ls) (hnn : ns1 = ns) {o1 o2 : Option Int} (f1 : d_first_wrong [.val (eG ts1), .val (eS s1), .val (eQ rs)] = R (eI o1) [eG ts1, eS s1, eQ rs]) (f2 : d_first_wrong [.val (eG ts2), .val (eS s2), .val (eQ rs)] = R (eI o2) [eG ts2, eS s2, eQ rs])
    (fw : d_first_wrong [.val (eG ts), .val (eS s), .val (eQ rs)] = R (eI (laterT o1 o2)) [eG ts, eS s, eQ rs]) : ∃ u', Urn (n + 2) u' ∧ d__law_halves_right [.bref (.lst u), .val (.tup [eG ts, eS s]), .val (.lst [.tup [eG ts1, eS s1], .tup [eG ts2, eS s2]]), .val (eQ rs), .val (eP th)] = .ok (.v (.bl true)) [some (.bref (.lst u')), v (.tup [eG ts, eS s]), v (.lst [.tup [eG ts1, eS s1], .tup [eG ts2, eS s2]]), v (eQ rs), v (eP th)] := by
  obtain ⟨u1, dg, hu1, hdg, sg⟩ := t_softG hu (by omega) ts (by omega)
  obtain ⟨u2, dr, hu2, hdr, sr⟩ := t_softR hu1 (by omega) rs (by omega)
  have sg : SoftR u1 (eG ts) dg (d__law_soft [.bref (.lst u), .val (eG ts)]) := sg
  have sr : SoftR u2 (eQ rs) dr (d__law_soft [.bref (.lst u1), .val (eQ rs)]) := sr
  have Ta := Tw dg (eQ rs) hdg (isR' rs)
  have Tb := Tw (eG ts) dr (isG' ts) hdr
  have T0 := Tw (eG ts) (eQ rs) (isG' ts) (isR' rs)
  have hsame : ∀ d, sm 7 d = true → d__law_same 8 [.val d, .val d] = R (.bl true) [d, d] := fun d h => t_same 7 d h
  subst hll hnn
  have j1 := t_joinLN (ls1.map eS)
  have j2 := t_joinLN (ns1.map eS)
  have go1 : d_going [.val (eG ts1), .val (eS s1), .val (eQ rs)] = R (eP p1) [eG ts1, eS s1, eQ rs] := T1.go
  have go2 := T2.go
  have gow : d_going [.val (eG ts), .val (eS s), .val (eQ rs)] = R (eP pw) [eG ts, eS s, eQ rs] := T0.go
  refine ⟨u2, hu2, ?_⟩
  refine good_body [.tup [eG ts, eS s], .lst [.tup [eG ts1, eS s1], .tup [eG ts2, eS s2]], eQ rs, eP th] rfl ?_
  show Good u2 (b__law_halves_right [some (.bref (.lst u)), v (.tup [eG ts, eS s]), v (.lst [.tup [eG ts1, eS s1], .tup [eG ts2, eS s2]]), v (eQ rs), v (eP th), none, none, none, none, none, none, none, none, none, none, none, none, none, none, none, none])
  unfold b__law_halves_right
  refine gd (sl1 := [some (.bref (.lst u)), v (.tup [eG ts, eS s]), v (.lst [.tup [eG ts1, eS s1], .tup [eG ts2, eS s2]]), v (eQ rs), v (eP th), none, none, none, none, none, none, none, none, v (eG ts), v (eS s), none, none, none, none, none, none]) (by simp) ?_
  refine gd (sl1 := [some (.bref (.lst u)), v (.tup [eG ts, eS s]), v (.lst [.tup [eG ts1, eS s1], .tup [eG ts2, eS s2]]), v (eQ rs), v (eP th), some (.own (.lst [(.lst (ls1.map eS)), .non])), none, none, none, none, none, none, none, v (eG ts), v (eS s), none, none, none, none, none, none]) (by simp [ev_lc, lcrun_cons, T1.lev, T2.lev]) ?_
  refine gd (sl1 := [some (.bref (.lst u)), v (.tup [eG ts, eS s]), v (.lst [.tup [eG ts1, eS s1], .tup [eG ts2, eS s2]]), v (eQ rs), v (eP th), some (.own (.lst [(.lst (ls1.map eS)), .non])), some (.own (.lst [(.lst (ns1.map eS)), .non])), none, none, none, none, none, none, v (eG ts), v (eS s), none, none, none, none, none, none]) (by simp [ev_lc, lcrun_cons, T1.num, T2.num]) ?_
  refine gd (sl1 := [some (.bref (.lst u)), v (.tup [eG ts, eS s]), v (.lst [.tup [eG ts1, eS s1], .tup [eG ts2, eS s2]]), v (eQ rs), v (eP th), some (.own (.lst [(.lst (ls1.map eS)), .non])), some (.own (.lst [(.lst (ns1.map eS)), .non])), v (.lst (ls1.map eS)), none, none, none, none, none, v (eG ts), v (eS s), none, none, none, none, none, none]) (by simp [j1]) ?_
  refine gd (sl1 := [some (.bref (.lst u2)), v (.tup [eG ts, eS s]), v (.lst [.tup [eG ts1, eS s1], .tup [eG ts2, eS s2]]), v (eQ rs), v (eP th), some (.own (.lst [(.lst (ls1.map eS)), .non])), some (.own (.lst [(.lst (ns1.map eS)), .non])), v (.lst (ls1.map eS)), some (.own (.lst [(.lst (ls1.map eS)), (.lst (ns1.map eS)), eI (laterT o1 o2)])), none, none, none, none, v (eG ts), v (eS s), none, none, none, none, none, none]) (by
    have h0 := Ta.lev
    have h1 := Tb.num
    rcases sg with g | ⟨l, e, g⟩ <;> rcases sr with r | ⟨m, e2, r⟩ <;> (try rw [e] at h0) <;> (try rw [e2] at h1) <;> simp [g, r, h0, h1, fw]) ?_
  refine gd (sl1 := [some (.bref (.lst u2)), v (.tup [eG ts, eS s]), v (.lst [.tup [eG ts1, eS s1], .tup [eG ts2, eS s2]]), v (eQ rs), v (eP th), some (.own (.lst [(.lst (ls1.map eS)), .non])), some (.own (.lst [(.lst (ns1.map eS)), .non])), v (.lst (ls1.map eS)), some (.own (.lst [(.lst (ls1.map eS)), (.lst (ns1.map eS)), eI (laterT o1 o2)])), some (.own (.lst [(.lst (ls1.map eS)), (.lst (ns1.map eS)), eI (laterT o1 o2)])), none, none, none, v (eG ts), v (eS s), none, none, none, none, none, none]) (by simp [j2, f1, f2, t_later]) ?_
  have sz := hsame (.lst [(.lst (ls1.map eS)), (.lst (ns1.map eS)), eI (laterT o1 o2)]) (by
    have k1 := sm_ls 4 ls1 (by rw [T0.lv.ll]; omega)
    have k2 := sm_ls 4 ns1 (by rw [T0.lv.nl]; omega)
    have k3 := sm_eI 6 (laterT o1 o2)
    simp [sm, smL] at k1 k2 k3 ⊢
    simp [k1, k2, k3])
  refine gd (nxF (sl1 := [some (.bref (.lst u2)), v (.tup [eG ts, eS s]), v (.lst [.tup [eG ts1, eS s1], .tup [eG ts2, eS s2]]), v (eQ rs), v (eP th), some (.own (.lst [(.lst (ls1.map eS)), .non])), some (.own (.lst [(.lst (ns1.map eS)), .non])), v (.lst (ls1.map eS)), v (.lst [(.lst (ls1.map eS)), (.lst (ns1.map eS)), eI (laterT o1 o2)]), v (.lst [(.lst (ls1.map eS)), (.lst (ns1.map eS)), eI (laterT o1 o2)]), none, none, none, v (eG ts), v (eS s), none, none, none, none, none, none]) (by simp [sz]) rfl) ?_
  have lcE : C.lc (C.iterA W.enum (C.acons (C.var 7) C.anil)) (C.gtup 2 (C.gcons (C.gname 18) (C.gcons (C.gname 11) C.gnil))) (C.tand (C.tv (C.bin O.notN (C.bin O.ix (C.var 11) (C.const (.int (0)))) (C.const (.non)))) (C.tv (C.bin O.eq (C.bin O.ix (C.var 11) (C.const (.int (0)))) (C.bin O.ix (C.var 11) (C.const (.int (1))))))) (C.var 18) [18, 11] [some (.bref (.lst u2)), v (.tup [eG ts, eS s]), v (.lst [.tup [eG ts1, eS s1], .tup [eG ts2, eS s2]]), v (eQ rs), v (eP th), some (.own (.lst [(.lst (ls1.map eS)), .non])), some (.own (.lst [(.lst (ns1.map eS)), .non])), v (.lst (ls1.map eS)), v (.lst [(.lst (ls1.map eS)), (.lst (ns1.map eS)), eI (laterT o1 o2)]), v (.lst [(.lst (ls1.map eS)), (.lst (ns1.map eS)), eI (laterT o1 o2)]), none, none, none, v (eG ts), v (eS s), none, none, none, none, none, none] = .ok (.n (.lst (eN (settledT ls1)))) [some (.bref (.lst u2)), v (.tup [eG ts, eS s]), v (.lst [.tup [eG ts1, eS s1], .tup [eG ts2, eS s2]]), v (eQ rs), v (eP th), some (.own (.lst [(.lst (ls1.map eS)), .non])), some (.own (.lst [(.lst (ns1.map eS)), .non])), v (.lst (ls1.map eS)), v (.lst [(.lst (ls1.map eS)), (.lst (ns1.map eS)), eI (laterT o1 o2)]), v (.lst [(.lst (ls1.map eS)), (.lst (ns1.map eS)), eI (laterT o1 o2)]), none, none, none, v (eG ts), v (eS s), none, none, none, none, none, none] := by
    have := lc_is (P := fun d (p : S2 × Nat) => d = .tup [.int (p.2 : Nat), eS p.1]) (it := C.iterA W.enum (C.acons (C.var 7) C.anil)) (g := C.gtup 2 (C.gcons (C.gname 18) (C.gcons (C.gname 11) C.gnil))) (t := C.tand (C.tv (C.bin O.notN (C.bin O.ix (C.var 11) (C.const (.int (0)))) (C.const (.non)))) (C.tv (C.bin O.eq (C.bin O.ix (C.var 11) (C.const (.int (0)))) (C.bin O.ix (C.var 11) (C.const (.int (1))))))) (e := C.var 18) (vs := [18, 11])
      (sl := [some (.bref (.lst u2)), v (.tup [eG ts, eS s]), v (.lst [.tup [eG ts1, eS s1], .tup [eG ts2, eS s2]]), v (eQ rs), v (eP th), some (.own (.lst [(.lst (ls1.map eS)), .non])), some (.own (.lst [(.lst (ns1.map eS)), .non])), v (.lst (ls1.map eS)), v (.lst [(.lst (ls1.map eS)), (.lst (ns1.map eS)), eI (laterT o1 o2)]), v (.lst [(.lst (ls1.map eS)), (.lst (ns1.map eS)), eI (laterT o1 o2)]), none, none, none, v (eG ts), v (eS s), none, none, none, none, none, none]) (sl1 := [some (.bref (.lst u2)), v (.tup [eG ts, eS s]), v (.lst [.tup [eG ts1, eS s1], .tup [eG ts2, eS s2]]), v (eQ rs), v (eP th), some (.own (.lst [(.lst (ls1.map eS)), .non])), some (.own (.lst [(.lst (ns1.map eS)), .non])), v (.lst (ls1.map eS)), v (.lst [(.lst (ls1.map eS)), (.lst (ns1.map eS)), eI (laterT o1 o2)]), v (.lst [(.lst (ls1.map eS)), (.lst (ns1.map eS)), eI (laterT o1 o2)]), none, none, none, v (eG ts), v (eS s), none, none, none, none, none, none]) (as := ls1.zipIdx) (fun p => stB p.1) (fun p => .int (p.2 : Nat)) (ds := enumD 0 (ls1.map eS)) (by simp) (by rw [enumD_map]; exact is2_map _ _) (by rw [enumD_len, List.length_map, T0.lv.ll]; omega) (fun d p hd hp => by
        subst hd
        rcases p with ⟨⟨a, b⟩, i⟩
        refine ⟨[some (.bref (.lst u2)), v (.tup [eG ts, eS s]), v (.lst [.tup [eG ts1, eS s1], .tup [eG ts2, eS s2]]), v (eQ rs), v (eP th), some (.own (.lst [(.lst (ls1.map eS)), .non])), some (.own (.lst [(.lst (ns1.map eS)), .non])), v (.lst (ls1.map eS)), v (.lst [(.lst (ls1.map eS)), (.lst (ns1.map eS)), eI (laterT o1 o2)]), v (.lst [(.lst (ls1.map eS)), (.lst (ns1.map eS)), eI (laterT o1 o2)]), none, v (eS (a, b)), none, v (eG ts), v (eS s), none, none, none, v (.int (i : Nat)), none, none], by simp, ?_, rfl, fun _ => ⟨.v (.int (i : Nat)), [some (.bref (.lst u2)), v (.tup [eG ts, eS s]), v (.lst [.tup [eG ts1, eS s1], .tup [eG ts2, eS s2]]), v (eQ rs), v (eP th), some (.own (.lst [(.lst (ls1.map eS)), .non])), some (.own (.lst [(.lst (ns1.map eS)), .non])), v (.lst (ls1.map eS)), v (.lst [(.lst (ls1.map eS)), (.lst (ns1.map eS)), eI (laterT o1 o2)]), v (.lst [(.lst (ls1.map eS)), (.lst (ns1.map eS)), eI (laterT o1 o2)]), none, v (eS (a, b)), none, v (eG ts), v (eS s), none, none, none, v (.int (i : Nat)), none, none], [some (.bref (.lst u2)), v (.tup [eG ts, eS s]), v (.lst [.tup [eG ts1, eS s1], .tup [eG ts2, eS s2]]), v (eQ rs), v (eP th), some (.own (.lst [(.lst (ls1.map eS)), .non])), some (.own (.lst [(.lst (ns1.map eS)), .non])), v (.lst (ls1.map eS)), v (.lst [(.lst (ls1.map eS)), (.lst (ns1.map eS)), eI (laterT o1 o2)]), v (.lst [(.lst (ls1.map eS)), (.lst (ns1.map eS)), eI (laterT o1 o2)]), none, v (eS (a, b)), none, v (eG ts), v (eS s), none, none, none, v (.int (i : Nat)), none, none], by simp, rfl, rfl⟩⟩
        rcases a with _ | a <;> rcases b with _ | b <;> simp [stB, eS]
        by_cases h : a = b <;> simp [h])
    rw [this]
    unfold settledT eN
    rw [List.map_map]
    rfl
  refine gd (sl1 := [some (.bref (.lst u2)), v (.tup [eG ts, eS s]), v (.lst [.tup [eG ts1, eS s1], .tup [eG ts2, eS s2]]), v (eQ rs), v (eP th), some (.own (.lst [(.lst (ls1.map eS)), .non])), some (.own (.lst [(.lst (ns1.map eS)), .non])), v (.lst (ls1.map eS)), v (.lst [(.lst (ls1.map eS)), (.lst (ns1.map eS)), eI (laterT o1 o2)]), v (.lst [(.lst (ls1.map eS)), (.lst (ns1.map eS)), eI (laterT o1 o2)]), v (.tup (eN (settledT ls1))), none, none, v (eG ts), v (eS s), none, none, none, none, none, none]) (by simp [lcE]) ?_
  refine gd (sl1 := [some (.bref (.lst u2)), v (.tup [eG ts, eS s]), v (.lst [.tup [eG ts1, eS s1], .tup [eG ts2, eS s2]]), v (eQ rs), v (eP th), some (.own (.lst [(.lst (ls1.map eS)), .non])), some (.own (.lst [(.lst (ns1.map eS)), .non])), v (.lst (ls1.map eS)), v (.lst [(.lst (ls1.map eS)), (.lst (ns1.map eS)), eI (laterT o1 o2)]), v (.lst [(.lst (ls1.map eS)), (.lst (ns1.map eS)), eI (laterT o1 o2)]), v (.tup (eN (settledT ls1))), none, none, v (eG ts), v (eS s), v (eP pw), some (.own (.lst [(eP p1), .non])), none, none, none, none]) (by simp [ev_lc, lcrun_cons, go1, go2, gow]) ?_
  have sz2 := hsame (.lst [(.tup (eN (settledT ls1))), .bl false]) (by
    have k3 := sm_eN 5 (settledT ls1) (by
      unfold settledT
      rw [List.length_map]
      refine Nat.le_trans (List.length_filter_le _ _) ?_
      rw [List.length_zipIdx, T0.lv.ll]; omega)
    simp [sm, smL] at k3 ⊢
    simp [k3])
  have y1 := lay_eP 5 p1
  have q1 : D.eqv (eP p1) .non = false := rfl
  refine gd (nxF (sl1 := [some (.bref (.lst u2)), v (.tup [eG ts, eS s]), v (.lst [.tup [eG ts1, eS s1], .tup [eG ts2, eS s2]]), v (eQ rs), v (eP th), some (.own (.lst [(.lst (ls1.map eS)), .non])), some (.own (.lst [(.lst (ns1.map eS)), .non])), v (.lst (ls1.map eS)), v (.lst [(.lst (ls1.map eS)), (.lst (ns1.map eS)), eI (laterT o1 o2)]), v (.lst [(.lst (ls1.map eS)), (.lst (ns1.map eS)), eI (laterT o1 o2)]), v (.tup (eN (settledT ls1))), none, none, v (eG ts), v (eS s), v (eP pw), some (.own (.lst [(eP p1), .non])), none, none, none, none]) (by simp [T0.set, sz2, y1, q1]) rfl) ?_
  have b0 := hv_body hok (by omega) hlr (p := p1) ((P.fit hok _ _).mpr (.inl T1.fit)) (some (.bref (.lst u2))) (v (.tup [eG ts, eS s])) (v (.lst [.tup [eG ts1, eS s1], .tup [eG ts2, eS s2]])) (v (eP th)) (some (.own (.lst [(.lst (ls1.map eS)), .non]))) (some (.own (.lst [(.lst (ns1.map eS)), .non]))) (v (.lst (ls1.map eS))) (v (.lst [(.lst (ls1.map eS)), (.lst (ns1.map eS)), eI (laterT o1 o2)])) (v (.lst [(.lst (ls1.map eS)), (.lst (ns1.map eS)), eI (laterT o1 o2)])) (v (.tup (eN (settledT ls1)))) none (v (eP pw)) (some (.own (.lst [(eP p1), .non]))) (none) none rfl
  have b1 := hv_body hok (by omega) hlr (p := pw) T0.fit (some (.bref (.lst u2))) (v (.tup [eG ts, eS s])) (v (.lst [.tup [eG ts1, eS s1], .tup [eG ts2, eS s2]])) (v (eP th)) (some (.own (.lst [(.lst (ls1.map eS)), .non]))) (some (.own (.lst [(.lst (ns1.map eS)), .non]))) (v (.lst (ls1.map eS))) (v (.lst [(.lst (ls1.map eS)), (.lst (ns1.map eS)), eI (laterT o1 o2)])) (v (.lst [(.lst (ls1.map eS)), (.lst (ns1.map eS)), eI (laterT o1 o2)])) (v (.tup (eN (settledT ls1)))) none (v (eP pw)) (some (.own (.lst [(eP p1), .non]))) (some (.own (.lst ((levT p1.1 p1.2).map D.int)))) none rfl
  have lcF : C.iter (C.lc (C.iter (C.bin O.add (C.var 16) (C.lst (C.acons (C.var 15) C.anil)))) (C.gname 11) (C.tv (C.bin O.notN (C.var 11) (C.const (.non)))) (C.var 11) [11]) [some (.bref (.lst u2)), v (.tup [eG ts, eS s]), v (.lst [.tup [eG ts1, eS s1], .tup [eG ts2, eS s2]]), v (eQ rs), v (eP th), some (.own (.lst [(.lst (ls1.map eS)), .non])), some (.own (.lst [(.lst (ns1.map eS)), .non])), v (.lst (ls1.map eS)), v (.lst [(.lst (ls1.map eS)), (.lst (ns1.map eS)), eI (laterT o1 o2)]), v (.lst [(.lst (ls1.map eS)), (.lst (ns1.map eS)), eI (laterT o1 o2)]), v (.tup (eN (settledT ls1))), none, none, v (eG ts), v (eS s), v (eP pw), some (.own (.lst [(eP p1), .non])), none, none, none, none] = .ok [eP p1, eP pw] [some (.bref (.lst u2)), v (.tup [eG ts, eS s]), v (.lst [.tup [eG ts1, eS s1], .tup [eG ts2, eS s2]]), v (eQ rs), v (eP th), some (.own (.lst [(.lst (ls1.map eS)), .non])), some (.own (.lst [(.lst (ns1.map eS)), .non])), v (.lst (ls1.map eS)), v (.lst [(.lst (ls1.map eS)), (.lst (ns1.map eS)), eI (laterT o1 o2)]), v (.lst [(.lst (ls1.map eS)), (.lst (ns1.map eS)), eI (laterT o1 o2)]), v (.tup (eN (settledT ls1))), none, none, v (eG ts), v (eS s), v (eP pw), some (.own (.lst [(eP p1), .non])), none, none, none, none] := by
    simp [ev_lc, lcrun_cons]
  refine gd (sl1 := [some (.bref (.lst u2)), v (.tup [eG ts, eS s]), v (.lst [.tup [eG ts1, eS s1], .tup [eG ts2, eS s2]]), v (eQ rs), v (eP th), some (.own (.lst [(.lst (ls1.map eS)), .non])), some (.own (.lst [(.lst (ns1.map eS)), .non])), v (.lst (ls1.map eS)), v (.lst [(.lst (ls1.map eS)), (.lst (ns1.map eS)), eI (laterT o1 o2)]), v (.lst [(.lst (ls1.map eS)), (.lst (ns1.map eS)), eI (laterT o1 o2)]), v (.tup (eN (settledT ls1))), v (eP pw), none, v (eG ts), v (eS s), v (eP pw), some (.own (.lst [(eP p1), .non])), some (.own (.lst ((levT pw.1 pw.2).map D.int))), none, none, none]) (forS_of lcF (by
    refine loop_step ?_ b0 ?_
    · rfl
    refine loop_step ?_ b1 ?_
    · rfl
    rfl)) ?_
  have g1 : d_goes_with [.val (eG ts1), .val (eS s1), .val (eQ rs), .val (eP th)] = R (.bl (gwB ts1 s1 rs th.1 th.2)) [eG ts1, eS s1, eQ rs, eP th] := t_gw (is2_to eT (fun _ => .inl rfl) ts1) (is2_to eR (fun _ => .inl rfl) rs) s1 th.1 th.2 (by rw [P.l1]; exact hok) (by rw [P.l1]; omega) hth hlr
  have g2 : d_goes_with [.val (eG ts2), .val (eS s2), .val (eQ rs), .val (eP th)] = R (.bl (gwB ts2 s2 rs th.1 th.2)) [eG ts2, eS s2, eQ rs, eP th] := t_gw (is2_to eT (fun _ => .inl rfl) ts2) (is2_to eR (fun _ => .inl rfl) rs) s2 th.1 th.2 (by rw [P.l2]; exact hok) (by rw [P.l2]; omega) hth hlr
  have g3 : d_goes_with [.val (eG ts), .val (eS s), .val (eQ rs), .val (eP th)] = R (.bl (gwB ts s rs th.1 th.2)) [eG ts, eS s, eQ rs, eP th] := t_gw (is2_to eT (fun _ => .inl rfl) ts) (is2_to eR (fun _ => .inl rfl) rs) s th.1 th.2 hok (by omega) hth hlr
  have gg : gwB ts s rs th.1 th.2 = (gwB ts1 s1 rs th.1 th.2 || gwB ts2 s2 rs th.1 th.2) := by
    rw [Bool.eq_iff_iff, Bool.or_eq_true, gw_iff hok, gw_iff (by rw [P.l1]; exact hok), gw_iff (by rw [P.l2]; exact hok)]
    exact P.fit hok _ _
  rw [gg] at g3
  generalize gwB ts1 s1 rs th.1 th.2 = B1 at g1 g3
  generalize gwB ts2 s2 rs th.1 th.2 = B2 at g2 g3
  refine gd (sl1 := [some (.bref (.lst u2)), v (.tup [eG ts, eS s]), v (.lst [.tup [eG ts1, eS s1], .tup [eG ts2, eS s2]]), v (eQ rs), v (eP th), some (.own (.lst [(.lst (ls1.map eS)), .non])), some (.own (.lst [(.lst (ns1.map eS)), .non])), v (.lst (ls1.map eS)), v (.lst [(.lst (ls1.map eS)), (.lst (ns1.map eS)), eI (laterT o1 o2)]), v (.lst [(.lst (ls1.map eS)), (.lst (ns1.map eS)), eI (laterT o1 o2)]), v (.tup (eN (settledT ls1))), v (eP pw), some (.own (.lst [.bl (B1), .bl (B2)])), v (eG ts), v (eS s), v (eP pw), some (.own (.lst [(eP p1), .non])), some (.own (.lst ((levT pw.1 pw.2).map D.int))), none, none, none]) (by simp [ev_lc, lcrun_cons, g1, g2]) ?_
  have sz3 := hsame (.bl (B1 || B2)) rfl
  have anyB : (([D.bl B1, .bl B2].any fun z => D.eqv z (.bl true))) = (B1 || B2) := by cases B1 <;> cases B2 <;> rfl
  refine gdR (sl1 := [some (.bref (.lst u2)), v (.tup [eG ts, eS s]), v (.lst [.tup [eG ts1, eS s1], .tup [eG ts2, eS s2]]), v (eQ rs), v (eP th), some (.own (.lst [(.lst (ls1.map eS)), .non])), some (.own (.lst [(.lst (ns1.map eS)), .non])), v (.lst (ls1.map eS)), v (.lst [(.lst (ls1.map eS)), (.lst (ns1.map eS)), eI (laterT o1 o2)]), v (.lst [(.lst (ls1.map eS)), (.lst (ns1.map eS)), eI (laterT o1 o2)]), v (.tup (eN (settledT ls1))), v (eP pw), some (.own (.lst [.bl (B1), .bl (B2)])), v (eG ts), v (eS s), v (eP pw), some (.own (.lst [(eP p1), .non])), some (.own (.lst ((levT pw.1 pw.2).map D.int))), none, none, none]) (by
    cases B1 <;> cases B2 <;> simp [g3] at sz3 g3 ⊢ <;> simp [g3, sz3]) rfl
theorem hv_YY {n : Nat} {u : List D} (hu : Urn n u) (hn : n < 900000) {ts ts1 ts2 : List Tri} {s s1 s2 : S2} {rs : List Rd} {th : Int × List Ev} {ls ns : List S2} {pw : Int × List Ev} {ls1 ns1 : List S2} {p1 : Int × List Ev} {ls2 ns2 : List S2} {p2 : Int × List Ev} (P : Parts ts s ts1 s1 ts2 s2) (hok : okRs ts.length rs) (hl : ts.length < 900) (hlr : rs.length < 60) (hth : th.2.length < 1000)
    (T1 : ToldY (eG ts1) (eQ rs) ts1 s1 rs ls1 ns1 p1.1 p1.2) (T2 : ToldY (eG ts2) (eQ rs) ts2 s2 rs ls2 ns2 p2.1 p2.2) (Tw : ∀ dg dr, IsQ IsT dg ts → IsQ IsR dr rs → ToldY dg dr ts s rs ls ns pw.1 pw.2) (hll : List.zipWith hullS ls1 ls2 = ls) (hnn : List.zipWith hullS ns1 ns2 = ns) {o1 o2 : Option Int} (f1 : d_first_wrong [.val (eG ts1), .val (eS s1), .val (eQ rs)] = R (eI o1) [eG ts1, eS s1, eQ rs]) (f2 : d_first_wrong [.val (eG ts2), .val (eS s2), .val (eQ rs)] = R (eI o2) [eG ts2, eS s2, eQ rs])
    (fw : d_first_wrong [.val (eG ts), .val (eS s), .val (eQ rs)] = R (eI (laterT o1 o2)) [eG ts, eS s, eQ rs]) : ∃ u', Urn (n + 2) u' ∧ d__law_halves_right [.bref (.lst u), .val (.tup [eG ts, eS s]), .val (.lst [.tup [eG ts1, eS s1], .tup [eG ts2, eS s2]]), .val (eQ rs), .val (eP th)] = .ok (.v (.bl true)) [some (.bref (.lst u')), v (.tup [eG ts, eS s]), v (.lst [.tup [eG ts1, eS s1], .tup [eG ts2, eS s2]]), v (eQ rs), v (eP th)] := by
  obtain ⟨u1, dg, hu1, hdg, sg⟩ := t_softG hu (by omega) ts (by omega)
  obtain ⟨u2, dr, hu2, hdr, sr⟩ := t_softR hu1 (by omega) rs (by omega)
  have sg : SoftR u1 (eG ts) dg (d__law_soft [.bref (.lst u), .val (eG ts)]) := sg
  have sr : SoftR u2 (eQ rs) dr (d__law_soft [.bref (.lst u1), .val (eQ rs)]) := sr
  have Ta := Tw dg (eQ rs) hdg (isR' rs)
  have Tb := Tw (eG ts) dr (isG' ts) hdr
  have T0 := Tw (eG ts) (eQ rs) (isG' ts) (isR' rs)
  have hsame : ∀ d, sm 7 d = true → d__law_same 8 [.val d, .val d] = R (.bl true) [d, d] := fun d h => t_same 7 d h
  have j1 := t_joined ls1 ls2 (by rw [T1.lv.ll, P.l1]; omega)
  have j2 := t_joined ns1 ns2 (by rw [T1.lv.nl, P.l1]; omega)
  rw [hll] at j1
  rw [hnn] at j2
  have go1 : d_going [.val (eG ts1), .val (eS s1), .val (eQ rs)] = R (eP p1) [eG ts1, eS s1, eQ rs] := T1.go
  have go2 : d_going [.val (eG ts2), .val (eS s2), .val (eQ rs)] = R (eP p2) [eG ts2, eS s2, eQ rs] := T2.go
  have gow : d_going [.val (eG ts), .val (eS s), .val (eQ rs)] = R (eP pw) [eG ts, eS s, eQ rs] := T0.go
  refine ⟨u2, hu2, ?_⟩
  refine good_body [.tup [eG ts, eS s], .lst [.tup [eG ts1, eS s1], .tup [eG ts2, eS s2]], eQ rs, eP th] rfl ?_
  show Good u2 (b__law_halves_right [some (.bref (.lst u)), v (.tup [eG ts, eS s]), v (.lst [.tup [eG ts1, eS s1], .tup [eG ts2, eS s2]]), v (eQ rs), v (eP th), none, none, none, none, none, none, none, none, none, none, none, none, none, none, none, none])
  unfold b__law_halves_right
  refine gd (sl1 := [some (.bref (.lst u)), v (.tup [eG ts, eS s]), v (.lst [.tup [eG ts1, eS s1], .tup [eG ts2, eS s2]]), v (eQ rs), v (eP th), none, none, none, none, none, none, none, none, v (eG ts), v (eS s), none, none, none, none, none, none]) (by simp) ?_
  refine gd (sl1 := [some (.bref (.lst u)), v (.tup [eG ts, eS s]), v (.lst [.tup [eG ts1, eS s1], .tup [eG ts2, eS s2]]), v (eQ rs), v (eP th), some (.own (.lst [(.lst (ls1.map eS)), (.lst (ls2.map eS))])), none, none, none, none, none, none, none, v (eG ts), v (eS s), none, none, none, none, none, none]) (by simp [ev_lc, lcrun_cons, T1.lev, T2.lev]) ?_
  refine gd (sl1 := [some (.bref (.lst u)), v (.tup [eG ts, eS s]), v (.lst [.tup [eG ts1, eS s1], .tup [eG ts2, eS s2]]), v (eQ rs), v (eP th), some (.own (.lst [(.lst (ls1.map eS)), (.lst (ls2.map eS))])), some (.own (.lst [(.lst (ns1.map eS)), (.lst (ns2.map eS))])), none, none, none, none, none, none, v (eG ts), v (eS s), none, none, none, none, none, none]) (by simp [ev_lc, lcrun_cons, T1.num, T2.num]) ?_
  refine gd (sl1 := [some (.bref (.lst u)), v (.tup [eG ts, eS s]), v (.lst [.tup [eG ts1, eS s1], .tup [eG ts2, eS s2]]), v (eQ rs), v (eP th), some (.own (.lst [(.lst (ls1.map eS)), (.lst (ls2.map eS))])), some (.own (.lst [(.lst (ns1.map eS)), (.lst (ns2.map eS))])), some (.own (.lst (ls.map eS))), none, none, none, none, none, v (eG ts), v (eS s), none, none, none, none, none, none]) (by simp [j1]) ?_
  refine gd (sl1 := [some (.bref (.lst u2)), v (.tup [eG ts, eS s]), v (.lst [.tup [eG ts1, eS s1], .tup [eG ts2, eS s2]]), v (eQ rs), v (eP th), some (.own (.lst [(.lst (ls1.map eS)), (.lst (ls2.map eS))])), some (.own (.lst [(.lst (ns1.map eS)), (.lst (ns2.map eS))])), some (.own (.lst (ls.map eS))), some (.own (.lst [(.lst (ls.map eS)), (.lst (ns.map eS)), eI (laterT o1 o2)])), none, none, none, none, v (eG ts), v (eS s), none, none, none, none, none, none]) (by
    have h0 := Ta.lev
    have h1 := Tb.num
    rcases sg with g | ⟨l, e, g⟩ <;> rcases sr with r | ⟨m, e2, r⟩ <;> (try rw [e] at h0) <;> (try rw [e2] at h1) <;> simp [g, r, h0, h1, fw]) ?_
  refine gd (sl1 := [some (.bref (.lst u2)), v (.tup [eG ts, eS s]), v (.lst [.tup [eG ts1, eS s1], .tup [eG ts2, eS s2]]), v (eQ rs), v (eP th), some (.own (.lst [(.lst (ls1.map eS)), (.lst (ls2.map eS))])), some (.own (.lst [(.lst (ns1.map eS)), (.lst (ns2.map eS))])), v (.lst (ls.map eS)), some (.own (.lst [(.lst (ls.map eS)), (.lst (ns.map eS)), eI (laterT o1 o2)])), some (.own (.lst [(.lst (ls.map eS)), (.lst (ns.map eS)), eI (laterT o1 o2)])), none, none, none, v (eG ts), v (eS s), none, none, none, none, none, none]) (by simp [j2, f1, f2, t_later]) ?_
  have sz := hsame (.lst [(.lst (ls.map eS)), (.lst (ns.map eS)), eI (laterT o1 o2)]) (by
    have k1 := sm_ls 4 ls (by rw [T0.lv.ll]; omega)
    have k2 := sm_ls 4 ns (by rw [T0.lv.nl]; omega)
    have k3 := sm_eI 6 (laterT o1 o2)
    simp [sm, smL] at k1 k2 k3 ⊢
    simp [k1, k2, k3])
  refine gd (nxF (sl1 := [some (.bref (.lst u2)), v (.tup [eG ts, eS s]), v (.lst [.tup [eG ts1, eS s1], .tup [eG ts2, eS s2]]), v (eQ rs), v (eP th), some (.own (.lst [(.lst (ls1.map eS)), (.lst (ls2.map eS))])), some (.own (.lst [(.lst (ns1.map eS)), (.lst (ns2.map eS))])), v (.lst (ls.map eS)), v (.lst [(.lst (ls.map eS)), (.lst (ns.map eS)), eI (laterT o1 o2)]), v (.lst [(.lst (ls.map eS)), (.lst (ns.map eS)), eI (laterT o1 o2)]), none, none, none, v (eG ts), v (eS s), none, none, none, none, none, none]) (by simp [sz]) rfl) ?_
  have lcE : C.lc (C.iterA W.enum (C.acons (C.var 7) C.anil)) (C.gtup 2 (C.gcons (C.gname 18) (C.gcons (C.gname 11) C.gnil))) (C.tand (C.tv (C.bin O.notN (C.bin O.ix (C.var 11) (C.const (.int (0)))) (C.const (.non)))) (C.tv (C.bin O.eq (C.bin O.ix (C.var 11) (C.const (.int (0)))) (C.bin O.ix (C.var 11) (C.const (.int (1))))))) (C.var 18) [18, 11] [some (.bref (.lst u2)), v (.tup [eG ts, eS s]), v (.lst [.tup [eG ts1, eS s1], .tup [eG ts2, eS s2]]), v (eQ rs), v (eP th), some (.own (.lst [(.lst (ls1.map eS)), (.lst (ls2.map eS))])), some (.own (.lst [(.lst (ns1.map eS)), (.lst (ns2.map eS))])), v (.lst (ls.map eS)), v (.lst [(.lst (ls.map eS)), (.lst (ns.map eS)), eI (laterT o1 o2)]), v (.lst [(.lst (ls.map eS)), (.lst (ns.map eS)), eI (laterT o1 o2)]), none, none, none, v (eG ts), v (eS s), none, none, none, none, none, none] = .ok (.n (.lst (eN (settledT ls)))) [some (.bref (.lst u2)), v (.tup [eG ts, eS s]), v (.lst [.tup [eG ts1, eS s1], .tup [eG ts2, eS s2]]), v (eQ rs), v (eP th), some (.own (.lst [(.lst (ls1.map eS)), (.lst (ls2.map eS))])), some (.own (.lst [(.lst (ns1.map eS)), (.lst (ns2.map eS))])), v (.lst (ls.map eS)), v (.lst [(.lst (ls.map eS)), (.lst (ns.map eS)), eI (laterT o1 o2)]), v (.lst [(.lst (ls.map eS)), (.lst (ns.map eS)), eI (laterT o1 o2)]), none, none, none, v (eG ts), v (eS s), none, none, none, none, none, none] := by
    have := lc_is (P := fun d (p : S2 × Nat) => d = .tup [.int (p.2 : Nat), eS p.1]) (it := C.iterA W.enum (C.acons (C.var 7) C.anil)) (g := C.gtup 2 (C.gcons (C.gname 18) (C.gcons (C.gname 11) C.gnil))) (t := C.tand (C.tv (C.bin O.notN (C.bin O.ix (C.var 11) (C.const (.int (0)))) (C.const (.non)))) (C.tv (C.bin O.eq (C.bin O.ix (C.var 11) (C.const (.int (0)))) (C.bin O.ix (C.var 11) (C.const (.int (1))))))) (e := C.var 18) (vs := [18, 11])
      (sl := [some (.bref (.lst u2)), v (.tup [eG ts, eS s]), v (.lst [.tup [eG ts1, eS s1], .tup [eG ts2, eS s2]]), v (eQ rs), v (eP th), some (.own (.lst [(.lst (ls1.map eS)), (.lst (ls2.map eS))])), some (.own (.lst [(.lst (ns1.map eS)), (.lst (ns2.map eS))])), v (.lst (ls.map eS)), v (.lst [(.lst (ls.map eS)), (.lst (ns.map eS)), eI (laterT o1 o2)]), v (.lst [(.lst (ls.map eS)), (.lst (ns.map eS)), eI (laterT o1 o2)]), none, none, none, v (eG ts), v (eS s), none, none, none, none, none, none]) (sl1 := [some (.bref (.lst u2)), v (.tup [eG ts, eS s]), v (.lst [.tup [eG ts1, eS s1], .tup [eG ts2, eS s2]]), v (eQ rs), v (eP th), some (.own (.lst [(.lst (ls1.map eS)), (.lst (ls2.map eS))])), some (.own (.lst [(.lst (ns1.map eS)), (.lst (ns2.map eS))])), v (.lst (ls.map eS)), v (.lst [(.lst (ls.map eS)), (.lst (ns.map eS)), eI (laterT o1 o2)]), v (.lst [(.lst (ls.map eS)), (.lst (ns.map eS)), eI (laterT o1 o2)]), none, none, none, v (eG ts), v (eS s), none, none, none, none, none, none]) (as := ls.zipIdx) (fun p => stB p.1) (fun p => .int (p.2 : Nat)) (ds := enumD 0 (ls.map eS)) (by simp) (by rw [enumD_map]; exact is2_map _ _) (by rw [enumD_len, List.length_map, T0.lv.ll]; omega) (fun d p hd hp => by
        subst hd
        rcases p with ⟨⟨a, b⟩, i⟩
        refine ⟨[some (.bref (.lst u2)), v (.tup [eG ts, eS s]), v (.lst [.tup [eG ts1, eS s1], .tup [eG ts2, eS s2]]), v (eQ rs), v (eP th), some (.own (.lst [(.lst (ls1.map eS)), (.lst (ls2.map eS))])), some (.own (.lst [(.lst (ns1.map eS)), (.lst (ns2.map eS))])), v (.lst (ls.map eS)), v (.lst [(.lst (ls.map eS)), (.lst (ns.map eS)), eI (laterT o1 o2)]), v (.lst [(.lst (ls.map eS)), (.lst (ns.map eS)), eI (laterT o1 o2)]), none, v (eS (a, b)), none, v (eG ts), v (eS s), none, none, none, v (.int (i : Nat)), none, none], by simp, ?_, rfl, fun _ => ⟨.v (.int (i : Nat)), [some (.bref (.lst u2)), v (.tup [eG ts, eS s]), v (.lst [.tup [eG ts1, eS s1], .tup [eG ts2, eS s2]]), v (eQ rs), v (eP th), some (.own (.lst [(.lst (ls1.map eS)), (.lst (ls2.map eS))])), some (.own (.lst [(.lst (ns1.map eS)), (.lst (ns2.map eS))])), v (.lst (ls.map eS)), v (.lst [(.lst (ls.map eS)), (.lst (ns.map eS)), eI (laterT o1 o2)]), v (.lst [(.lst (ls.map eS)), (.lst (ns.map eS)), eI (laterT o1 o2)]), none, v (eS (a, b)), none, v (eG ts), v (eS s), none, none, none, v (.int (i : Nat)), none, none], [some (.bref (.lst u2)), v (.tup [eG ts, eS s]), v (.lst [.tup [eG ts1, eS s1], .tup [eG ts2, eS s2]]), v (eQ rs), v (eP th), some (.own (.lst [(.lst (ls1.map eS)), (.lst (ls2.map eS))])), some (.own (.lst [(.lst (ns1.map eS)), (.lst (ns2.map eS))])), v (.lst (ls.map eS)), v (.lst [(.lst (ls.map eS)), (.lst (ns.map eS)), eI (laterT o1 o2)]), v (.lst [(.lst (ls.map eS)), (.lst (ns.map eS)), eI (laterT o1 o2)]), none, v (eS (a, b)), none, v (eG ts), v (eS s), none, none, none, v (.int (i : Nat)), none, none], by simp, rfl, rfl⟩⟩
        rcases a with _ | a <;> rcases b with _ | b <;> simp [stB, eS]
        by_cases h : a = b <;> simp [h])
    rw [this]
    unfold settledT eN
    rw [List.map_map]
    rfl
  refine gd (sl1 := [some (.bref (.lst u2)), v (.tup [eG ts, eS s]), v (.lst [.tup [eG ts1, eS s1], .tup [eG ts2, eS s2]]), v (eQ rs), v (eP th), some (.own (.lst [(.lst (ls1.map eS)), (.lst (ls2.map eS))])), some (.own (.lst [(.lst (ns1.map eS)), (.lst (ns2.map eS))])), v (.lst (ls.map eS)), v (.lst [(.lst (ls.map eS)), (.lst (ns.map eS)), eI (laterT o1 o2)]), v (.lst [(.lst (ls.map eS)), (.lst (ns.map eS)), eI (laterT o1 o2)]), v (.tup (eN (settledT ls))), none, none, v (eG ts), v (eS s), none, none, none, none, none, none]) (by simp [lcE]) ?_
  refine gd (sl1 := [some (.bref (.lst u2)), v (.tup [eG ts, eS s]), v (.lst [.tup [eG ts1, eS s1], .tup [eG ts2, eS s2]]), v (eQ rs), v (eP th), some (.own (.lst [(.lst (ls1.map eS)), (.lst (ls2.map eS))])), some (.own (.lst [(.lst (ns1.map eS)), (.lst (ns2.map eS))])), v (.lst (ls.map eS)), v (.lst [(.lst (ls.map eS)), (.lst (ns.map eS)), eI (laterT o1 o2)]), v (.lst [(.lst (ls.map eS)), (.lst (ns.map eS)), eI (laterT o1 o2)]), v (.tup (eN (settledT ls))), none, none, v (eG ts), v (eS s), v (eP pw), some (.own (.lst [(eP p1), (eP p2)])), none, none, none, none]) (by simp [ev_lc, lcrun_cons, go1, go2, gow]) ?_
  have sz2 := hsame (.lst [(.tup (eN (settledT ls))), .bl false]) (by
    have k3 := sm_eN 5 (settledT ls) (by
      unfold settledT
      rw [List.length_map]
      refine Nat.le_trans (List.length_filter_le _ _) ?_
      rw [List.length_zipIdx, T0.lv.ll]; omega)
    simp [sm, smL] at k3 ⊢
    simp [k3])
  have y1 := lay_eP 5 p1
  have q1 : D.eqv (eP p1) .non = false := rfl
  have y2 := lay_eP 5 p2
  have q2 : D.eqv (eP p2) .non = false := rfl
  refine gd (nxF (sl1 := [some (.bref (.lst u2)), v (.tup [eG ts, eS s]), v (.lst [.tup [eG ts1, eS s1], .tup [eG ts2, eS s2]]), v (eQ rs), v (eP th), some (.own (.lst [(.lst (ls1.map eS)), (.lst (ls2.map eS))])), some (.own (.lst [(.lst (ns1.map eS)), (.lst (ns2.map eS))])), v (.lst (ls.map eS)), v (.lst [(.lst (ls.map eS)), (.lst (ns.map eS)), eI (laterT o1 o2)]), v (.lst [(.lst (ls.map eS)), (.lst (ns.map eS)), eI (laterT o1 o2)]), v (.tup (eN (settledT ls))), none, none, v (eG ts), v (eS s), v (eP pw), some (.own (.lst [(eP p1), (eP p2)])), none, none, none, none]) (by simp [T0.set, sz2, y1, q1, y2, q2]) rfl) ?_
  have b0 := hv_body hok (by omega) hlr (p := p1) ((P.fit hok _ _).mpr (.inl T1.fit)) (some (.bref (.lst u2))) (v (.tup [eG ts, eS s])) (v (.lst [.tup [eG ts1, eS s1], .tup [eG ts2, eS s2]])) (v (eP th)) (some (.own (.lst [(.lst (ls1.map eS)), (.lst (ls2.map eS))]))) (some (.own (.lst [(.lst (ns1.map eS)), (.lst (ns2.map eS))]))) (v (.lst (ls.map eS))) (v (.lst [(.lst (ls.map eS)), (.lst (ns.map eS)), eI (laterT o1 o2)])) (v (.lst [(.lst (ls.map eS)), (.lst (ns.map eS)), eI (laterT o1 o2)])) (v (.tup (eN (settledT ls)))) none (v (eP pw)) (some (.own (.lst [(eP p1), (eP p2)]))) (none) none rfl
  have b1 := hv_body hok (by omega) hlr (p := p2) ((P.fit hok _ _).mpr (.inr T2.fit)) (some (.bref (.lst u2))) (v (.tup [eG ts, eS s])) (v (.lst [.tup [eG ts1, eS s1], .tup [eG ts2, eS s2]])) (v (eP th)) (some (.own (.lst [(.lst (ls1.map eS)), (.lst (ls2.map eS))]))) (some (.own (.lst [(.lst (ns1.map eS)), (.lst (ns2.map eS))]))) (v (.lst (ls.map eS))) (v (.lst [(.lst (ls.map eS)), (.lst (ns.map eS)), eI (laterT o1 o2)])) (v (.lst [(.lst (ls.map eS)), (.lst (ns.map eS)), eI (laterT o1 o2)])) (v (.tup (eN (settledT ls)))) none (v (eP pw)) (some (.own (.lst [(eP p1), (eP p2)]))) (some (.own (.lst ((levT p1.1 p1.2).map D.int)))) none rfl
  have b2 := hv_body hok (by omega) hlr (p := pw) T0.fit (some (.bref (.lst u2))) (v (.tup [eG ts, eS s])) (v (.lst [.tup [eG ts1, eS s1], .tup [eG ts2, eS s2]])) (v (eP th)) (some (.own (.lst [(.lst (ls1.map eS)), (.lst (ls2.map eS))]))) (some (.own (.lst [(.lst (ns1.map eS)), (.lst (ns2.map eS))]))) (v (.lst (ls.map eS))) (v (.lst [(.lst (ls.map eS)), (.lst (ns.map eS)), eI (laterT o1 o2)])) (v (.lst [(.lst (ls.map eS)), (.lst (ns.map eS)), eI (laterT o1 o2)])) (v (.tup (eN (settledT ls)))) none (v (eP pw)) (some (.own (.lst [(eP p1), (eP p2)]))) (some (.own (.lst ((levT p2.1 p2.2).map D.int)))) none rfl
  have lcF : C.iter (C.lc (C.iter (C.bin O.add (C.var 16) (C.lst (C.acons (C.var 15) C.anil)))) (C.gname 11) (C.tv (C.bin O.notN (C.var 11) (C.const (.non)))) (C.var 11) [11]) [some (.bref (.lst u2)), v (.tup [eG ts, eS s]), v (.lst [.tup [eG ts1, eS s1], .tup [eG ts2, eS s2]]), v (eQ rs), v (eP th), some (.own (.lst [(.lst (ls1.map eS)), (.lst (ls2.map eS))])), some (.own (.lst [(.lst (ns1.map eS)), (.lst (ns2.map eS))])), v (.lst (ls.map eS)), v (.lst [(.lst (ls.map eS)), (.lst (ns.map eS)), eI (laterT o1 o2)]), v (.lst [(.lst (ls.map eS)), (.lst (ns.map eS)), eI (laterT o1 o2)]), v (.tup (eN (settledT ls))), none, none, v (eG ts), v (eS s), v (eP pw), some (.own (.lst [(eP p1), (eP p2)])), none, none, none, none] = .ok [eP p1, eP p2, eP pw] [some (.bref (.lst u2)), v (.tup [eG ts, eS s]), v (.lst [.tup [eG ts1, eS s1], .tup [eG ts2, eS s2]]), v (eQ rs), v (eP th), some (.own (.lst [(.lst (ls1.map eS)), (.lst (ls2.map eS))])), some (.own (.lst [(.lst (ns1.map eS)), (.lst (ns2.map eS))])), v (.lst (ls.map eS)), v (.lst [(.lst (ls.map eS)), (.lst (ns.map eS)), eI (laterT o1 o2)]), v (.lst [(.lst (ls.map eS)), (.lst (ns.map eS)), eI (laterT o1 o2)]), v (.tup (eN (settledT ls))), none, none, v (eG ts), v (eS s), v (eP pw), some (.own (.lst [(eP p1), (eP p2)])), none, none, none, none] := by
    simp [ev_lc, lcrun_cons]
  refine gd (sl1 := [some (.bref (.lst u2)), v (.tup [eG ts, eS s]), v (.lst [.tup [eG ts1, eS s1], .tup [eG ts2, eS s2]]), v (eQ rs), v (eP th), some (.own (.lst [(.lst (ls1.map eS)), (.lst (ls2.map eS))])), some (.own (.lst [(.lst (ns1.map eS)), (.lst (ns2.map eS))])), v (.lst (ls.map eS)), v (.lst [(.lst (ls.map eS)), (.lst (ns.map eS)), eI (laterT o1 o2)]), v (.lst [(.lst (ls.map eS)), (.lst (ns.map eS)), eI (laterT o1 o2)]), v (.tup (eN (settledT ls))), v (eP pw), none, v (eG ts), v (eS s), v (eP pw), some (.own (.lst [(eP p1), (eP p2)])), some (.own (.lst ((levT pw.1 pw.2).map D.int))), none, none, none]) (forS_of lcF (by
    refine loop_step ?_ b0 ?_
    · rfl
    refine loop_step ?_ b1 ?_
    · rfl
    refine loop_step ?_ b2 ?_
    · rfl
    rfl)) ?_
  have g1 : d_goes_with [.val (eG ts1), .val (eS s1), .val (eQ rs), .val (eP th)] = R (.bl (gwB ts1 s1 rs th.1 th.2)) [eG ts1, eS s1, eQ rs, eP th] := t_gw (is2_to eT (fun _ => .inl rfl) ts1) (is2_to eR (fun _ => .inl rfl) rs) s1 th.1 th.2 (by rw [P.l1]; exact hok) (by rw [P.l1]; omega) hth hlr
  have g2 : d_goes_with [.val (eG ts2), .val (eS s2), .val (eQ rs), .val (eP th)] = R (.bl (gwB ts2 s2 rs th.1 th.2)) [eG ts2, eS s2, eQ rs, eP th] := t_gw (is2_to eT (fun _ => .inl rfl) ts2) (is2_to eR (fun _ => .inl rfl) rs) s2 th.1 th.2 (by rw [P.l2]; exact hok) (by rw [P.l2]; omega) hth hlr
  have g3 : d_goes_with [.val (eG ts), .val (eS s), .val (eQ rs), .val (eP th)] = R (.bl (gwB ts s rs th.1 th.2)) [eG ts, eS s, eQ rs, eP th] := t_gw (is2_to eT (fun _ => .inl rfl) ts) (is2_to eR (fun _ => .inl rfl) rs) s th.1 th.2 hok (by omega) hth hlr
  have gg : gwB ts s rs th.1 th.2 = (gwB ts1 s1 rs th.1 th.2 || gwB ts2 s2 rs th.1 th.2) := by
    rw [Bool.eq_iff_iff, Bool.or_eq_true, gw_iff hok, gw_iff (by rw [P.l1]; exact hok), gw_iff (by rw [P.l2]; exact hok)]
    exact P.fit hok _ _
  rw [gg] at g3
  generalize gwB ts1 s1 rs th.1 th.2 = B1 at g1 g3
  generalize gwB ts2 s2 rs th.1 th.2 = B2 at g2 g3
  refine gd (sl1 := [some (.bref (.lst u2)), v (.tup [eG ts, eS s]), v (.lst [.tup [eG ts1, eS s1], .tup [eG ts2, eS s2]]), v (eQ rs), v (eP th), some (.own (.lst [(.lst (ls1.map eS)), (.lst (ls2.map eS))])), some (.own (.lst [(.lst (ns1.map eS)), (.lst (ns2.map eS))])), v (.lst (ls.map eS)), v (.lst [(.lst (ls.map eS)), (.lst (ns.map eS)), eI (laterT o1 o2)]), v (.lst [(.lst (ls.map eS)), (.lst (ns.map eS)), eI (laterT o1 o2)]), v (.tup (eN (settledT ls))), v (eP pw), some (.own (.lst [.bl (B1), .bl (B2)])), v (eG ts), v (eS s), v (eP pw), some (.own (.lst [(eP p1), (eP p2)])), some (.own (.lst ((levT pw.1 pw.2).map D.int))), none, none, none]) (by simp [ev_lc, lcrun_cons, g1, g2]) ?_
  have sz3 := hsame (.bl (B1 || B2)) rfl
  have anyB : (([D.bl B1, .bl B2].any fun z => D.eqv z (.bl true))) = (B1 || B2) := by cases B1 <;> cases B2 <;> rfl
  refine gdR (sl1 := [some (.bref (.lst u2)), v (.tup [eG ts, eS s]), v (.lst [.tup [eG ts1, eS s1], .tup [eG ts2, eS s2]]), v (eQ rs), v (eP th), some (.own (.lst [(.lst (ls1.map eS)), (.lst (ls2.map eS))])), some (.own (.lst [(.lst (ns1.map eS)), (.lst (ns2.map eS))])), v (.lst (ls.map eS)), v (.lst [(.lst (ls.map eS)), (.lst (ns.map eS)), eI (laterT o1 o2)]), v (.lst [(.lst (ls.map eS)), (.lst (ns.map eS)), eI (laterT o1 o2)]), v (.tup (eN (settledT ls))), v (eP pw), some (.own (.lst [.bl (B1), .bl (B2)])), v (eG ts), v (eS s), v (eP pw), some (.own (.lst [(eP p1), (eP p2)])), some (.own (.lst ((levT pw.1 pw.2).map D.int))), none, none, none]) (by
    cases B1 <;> cases B2 <;> simp [g3] at sz3 g3 ⊢ <;> simp [g3, sz3]) rfl
end RF.L
set_option maxRecDepth 100000
set_option maxHeartbeats 4000000
namespace RF.L
open PySem RF RF.C
theorem halves_right {n : Nat} {u : List D} (hu : Urn n u) (hn : n < 900000) {ts ts1 ts2 : List Tri} {s s1 s2 : S2} {rs : List Rd} {th : Int × List Ev} (P : Parts ts s ts1 s1 ts2 s2) (hts : okTs ts) (hts1 : okTs ts1) (hts2 : okTs ts2) (hs : okS s = true) (hs1 : okS s1 = true) (hs2 : okS s2 = true) (hok : okRs ts.length rs) (hl : ts.length < 900) (hlr : rs.length < 60) (hth : th.2.length < 1000) :
    ∃ u', Urn (n + 2) u' ∧ d__law_halves_right [.bref (.lst u), .val (.tup [eG ts, eS s]), .val (.lst [.tup [eG ts1, eS s1], .tup [eG ts2, eS s2]]), .val (eQ rs), .val (eP th)] = .ok (.v (.bl true)) [some (.bref (.lst u')), v (.tup [eG ts, eS s]), v (.lst [.tup [eG ts1, eS s1], .tup [eG ts2, eS s2]]), v (eQ rs), v (eP th)] := by
  have hok1 : okRs ts1.length rs := by rw [P.l1]; exact hok
  have hok2 : okRs ts2.length rs := by rw [P.l2]; exact hok
  obtain ⟨o1, F1, f1⟩ := fw_ok (isG' ts1) (isR' rs) hts1 hs1 hok1 (by rw [P.l1]; omega) hlr
  obtain ⟨o2, F2, f2⟩ := fw_ok (isG' ts2) (isR' rs) hts2 hs2 hok2 (by rw [P.l2]; omega) hlr
  obtain ⟨o, F, f⟩ := fw_ok (isG' ts) (isR' rs) hts hs hok (by omega) hlr
  have e : o = laterT o1 o2 := by
    rw [FW.one F (FW.parts P hok F1 F2)]
    cases o1 <;> cases o2 <;> rfl
  rw [e] at f
  have pf := P.fit hok
  by_cases y1 : ∃ x es, Fit ts1 s1 rs x es
  · obtain ⟨ls1, ns1, x1, es1, T1⟩ := toldY hts1 hs1 hok1 (by rw [P.l1]; omega) hlr y1
    have T1 := T1 _ _ (isG' ts1) (isR' rs)
    obtain ⟨x, es, q⟩ := y1
    obtain ⟨ls, ns, xw, esw, Tw⟩ := toldY hts hs hok (by omega) hlr ⟨x, es, (pf x es).mpr (.inl q)⟩
    have T0 := Tw _ _ (isG' ts) (isR' rs)
    by_cases y2 : ∃ x es, Fit ts2 s2 rs x es
    · obtain ⟨ls2, ns2, x2, es2, T2⟩ := toldY hts2 hs2 hok2 (by rw [P.l2]; omega) hlr y2
      have T2 := T2 _ _ (isG' ts2) (isR' rs)
      have hh := Lv.hull P hok T0.lv T1.lv T2.lv
      exact hv_YY hu hn (p1 := (x1, es1)) (p2 := (x2, es2)) (pw := (xw, esw)) P hok hl hlr hth T1 T2 Tw hh.1.symm hh.2.symm f1 f2 f
    · have n2 : NoFit ts2 s2 rs := fun x es h => y2 ⟨x, es, h⟩
      have hh := Lv.same T0.lv T1.lv P.l1 P.w1 (fun x es => by
        rw [pf]
        exact ⟨fun h => h.elim id fun z => (n2 x es z).elim, .inl⟩)
      exact hv_YN hu hn (p1 := (x1, es1)) (pw := (xw, esw)) P hok hl hlr hth T1 (toldN (isG' ts2) (isR' rs) hts2 hs2 (by rw [P.l2]; omega) n2) Tw hh.1.symm hh.2.symm f1 f2 f
  · have n1 : NoFit ts1 s1 rs := fun x es h => y1 ⟨x, es, h⟩
    have T1 := toldN (isG' ts1) (isR' rs) hts1 hs1 (by rw [P.l1]; omega) n1
    by_cases y2 : ∃ x es, Fit ts2 s2 rs x es
    · obtain ⟨ls2, ns2, x2, es2, T2⟩ := toldY hts2 hs2 hok2 (by rw [P.l2]; omega) hlr y2
      have T2 := T2 _ _ (isG' ts2) (isR' rs)
      obtain ⟨x, es, q⟩ := y2
      obtain ⟨ls, ns, xw, esw, Tw⟩ := toldY hts hs hok (by omega) hlr ⟨x, es, (pf x es).mpr (.inr q)⟩
      have T0 := Tw _ _ (isG' ts) (isR' rs)
      have hh := Lv.same T0.lv T2.lv P.l2 P.w2 (fun x es => by
        rw [pf]
        exact ⟨fun h => h.elim (fun z => (n1 x es z).elim) id, .inr⟩)
      exact hv_NY hu hn (p2 := (x2, es2)) (pw := (xw, esw)) P hok hl hlr hth T1 T2 Tw hh.1.symm hh.2.symm f1 f2 f
    · have n2 : NoFit ts2 s2 rs := fun x es h => y2 ⟨x, es, h⟩
      exact hv_NN hu hn P hok hl hlr hth T1 (toldN (isG' ts2) (isR' rs) hts2 hs2 (by rw [P.l2]; omega) n2) (fun dg dr hg hr => toldN hg hr hts hs (by omega) fun x es h => ((pf x es).mp h).elim (n1 x es) (n2 x es)) f1 f2 f
/-! ### _law_more_right -/
theorem okRs_app {n : Nat} {rs : List Rd} {r : Rd} (h : okRs n rs) (hr : 0 ≤ r.1 ∧ r.1 ≤ (n : Int)) : okRs n (rs ++ [r]) := fun r' hr' => by
  rcases List.mem_append.mp hr' with h1 | h1
  · exact h r' h1
  · have : r' = r := by simpa using h1
    subst this; exact hr
theorem fit_app {ts : List Tri} {s : S2} {rs : List Rd} {r : Rd} (h : okRs ts.length rs) (hr : 0 ≤ r.1 ∧ r.1 ≤ (ts.length : Int)) (x : Int) (es : List Ev) : Fit ts s (rs ++ [r]) x es ↔ Fit ts s rs x es ∧ RdOk x es r := by
  rw [fit_iff (okRs_app h hr), fit_iff h]
  constructor
  · rintro ⟨h1, h2, h3⟩
    exact ⟨⟨h1, h2, fun r' hr' => h3 r' (by simp [hr'])⟩, h3 r (by simp)⟩
  · rintro ⟨⟨h1, h2, h3⟩, h4⟩
    refine ⟨h1, h2, fun r' hr' => ?_⟩
    rcases List.mem_append.mp hr' with q | q
    · exact h3 r' q
    · have : r' = r := by simpa using q
      subst this; exact h4
theorem add_eQ (rs : List Rd) (hl : rs.length < 100) (r : Rd) : O.add (eQ rs) (.tup [.tup [.int r.1, .int r.2]]) = some (.v (eQ (rs ++ [r]))) := by
  have : (rs ++ [r]).map eR = rs.map eR ++ [eR r] := by simp
  unfold eQ
  rw [this]
  exact if_pos (by rw [List.length_map]; simp; omega)
theorem more_N {n : Nat} {u : List D} (hu : Urn n u) (hn : n < 900000) {ts : List Tri} {rs : List Rd} {a b : Int} {th : Int × List Ev} (hts : okTs ts) (hle : a ≤ b) (hok : okRs ts.length rs) (hl : ts.length < 900) (hlr : rs.length < 50) (h : NoFit ts (some a, some b) rs) :
    ∃ u', Urn (n + 2) u' ∧ d__law_more_right [.bref (.lst u), .val (eG ts), .val (eS (some a, some b)), .val (eQ rs), .val (eP th)] = .ok (.v (.bl true)) [some (.bref (.lst u')), v (eG ts), v (eS (some a, some b)), v (eQ rs), v (eP th)] := by
  have hs : okS (some a, some b) = true := by simpa [okS] using hle
  obtain ⟨m, u1, m0, m1, hu1, t1⟩ := t_take hu (by omega) (low := (ts.length : Int) + 1) (by omega) (by omega)
  obtain ⟨k, u2, k0, k1, hu2, t2⟩ := t_number hu1 (by omega) (far := 9) (by omega) (by omega)
  have T0 := toldN (isG' ts) (isR' rs) hts hs (by omega) h
  have hr : 0 ≤ m ∧ m ≤ (ts.length : Int) := by omega
  have T1 := toldN (isG' ts) (isR' (rs ++ [(m, k)])) hts hs (by omega) (fun x es f => h x es ((fit_app hok hr x es).mp f).1)
  have ad := add_eQ rs (by omega) (m, k)
  have lG := len_eG ts
  have sz := t_same 7 (.lst [.non, .non, .non]) (by simp [sm, smL])
  refine ⟨u2, hu2, ?_⟩
  refine good_body [eG ts, eS (some a, some b), eQ rs, eP th] rfl ?_
  show Good u2 (b__law_more_right [some (.bref (.lst u)), v (eG ts), v (eS (some a, some b)), v (eQ rs), v (eP th), none, none, none, none, none, none, none, none, none, none, none, none])
  unfold b__law_more_right
  refine gd (sl1 := [some (.bref (.lst u1)), v (eG ts), v (eS (some a, some b)), v (eQ rs), v (eP th), none, none, none, none, none, v .non, v (.int m), none, none, none, none, none]) (by simp [T0.lev, lG, t1, -O.len]) ?_
  refine ⟨_, seq_rt (sl1 := [some (.bref (.lst u2)), v (eG ts), v (eS (some a, some b)), v (eQ rs), v (eP th), none, none, v (eQ (rs ++ [(m, k)])), none, none, v .non, v (.int m), none, none, none, none, none]) (r := .v (.bl true)) ?_, rfl⟩
  simp [t2, ad, T1.lev, T1.num, T1.nd, sz, -O.add]
theorem any_eN (l : List Nat) (k : Nat) : ((eN l).any fun z => D.eqv z (.int (k : Nat))) = decide (k ∈ l) := by
  unfold eN
  induction l with
  | nil => rfl
  | cons a l ih =>
    rw [List.map_cons, List.any_cons, ih]
    by_cases h1 : a = k
    · subst h1; simp
    · have h2 : ¬ k = a := fun z => h1 z.symm
      by_cases h3 : k ∈ l
      · simp [h3]
      · simp [h2, h3]; omega
theorem flat_eN (l : List Nat) : (eN l).all flatD = true := by
  unfold eN
  induction l with
  | nil => rfl
  | cons a l ih => simp [ih]
/-- told twice: both are needless -/
theorem twice_nd {ts : List Tri} {s : S2} {r : Rd} {rs : List Rd} (ht : okTs ts) (hs : okS s = true) (hok : okRs ts.length (r :: rs)) (hf : ∃ x es, Fit ts s (r :: rs) x es) :
    okRs ts.length (r :: rs ++ [r]) ∧ (∃ x es, Fit ts s (r :: rs ++ [r]) x es) ∧ 0 ∈ ndT ts s (r :: rs ++ [r]) ∧ (r :: rs).length ∈ ndT ts s (r :: rs ++ [r]) := by
  have hr := hok r (by simp)
  have hok2 := okRs_app hok hr
  obtain ⟨x, es, f⟩ := hf
  have f2 : Fit ts s (r :: rs ++ [r]) x es := (fit_app hok hr x es).mpr ⟨f, ((fit_iff hok x es).mp f).2.2 r (by simp)⟩
  have hf2 : ∃ x es, Fit ts s (r :: rs ++ [r]) x es := ⟨x, es, f2⟩
  refine ⟨hok2, hf2, ?_, ?_⟩
  · have e : (r :: rs ++ [r])[0]? = some r := rfl
    have := (nd_iff ht hs hok2 hf2 e).mpr (fun x es g => by
      refine ((fit_iff (okRs_sub hok2 erase_sub) x es).mp g).2.2 r ?_
      rw [drop_erase]; simp)
    unfold ndT
    refine List.mem_map.mpr ⟨(r, 0), List.mem_filter.mpr ⟨?_, this⟩, rfl⟩
    rw [List.cons_append, List.zipIdx_cons]; simp
  · have e : (r :: rs ++ [r])[(r :: rs).length]? = some r := by simp
    have := (nd_iff ht hs hok2 hf2 e).mpr (fun x es g => by
      refine ((fit_iff (okRs_sub hok2 erase_sub) x es).mp g).2.2 r ?_
      rw [drop_erase]; simp)
    unfold ndT
    refine List.mem_map.mpr ⟨(r, (r :: rs).length), List.mem_filter.mpr ⟨?_, this⟩, rfl⟩
    rw [List.mem_iff_getElem?]
    exact ⟨(r :: rs).length, by rw [List.getElem?_zipIdx, e]; simp⟩
theorem more_Y {n : Nat} {u : List D} (hu : Urn n u) (hn : n < 900000) {ts : List Tri} {rs : List Rd} {a b : Int} {th : Int × List Ev} (hts : okTs ts) (hle : a ≤ b) (hok : okRs ts.length rs) (hl : ts.length < 900) (hlr : rs.length < 50) (hth : th.2.length = ts.length) (hfit : ∃ x es, Fit ts (some a, some b) rs x es) :
    ∃ u', Urn (n + 2) u' ∧ d__law_more_right [.bref (.lst u), .val (eG ts), .val (eS (some a, some b)), .val (eQ rs), .val (eP th)] = .ok (.v (.bl true)) [some (.bref (.lst u')), v (eG ts), v (eS (some a, some b)), v (eQ rs), v (eP th)] := by
  have hs : okS (some a, some b) = true := by simpa [okS] using hle
  obtain ⟨m, u1, m0, m1, hu1, t1⟩ := t_take hu (by omega) (low := (ts.length : Int) + 1) (by omega) (by omega)
  have hr : 0 ≤ m ∧ m ≤ (ts.length : Int) := by omega
  obtain ⟨ls, ns, x, es, T⟩ := toldY hts hs hok (by omega) (by omega) hfit
  have T0 := T _ _ (isG' ts) (isR' rs)
  obtain ⟨z, hz⟩ : ∃ z, ls[m.toNat]? = some z := ⟨_, List.getElem?_eq_getElem (by rw [T0.lv.ll]; omega)⟩
  obtain ⟨z1, z2, rfl⟩ := T0.lv.fin hz
  have hzm := (T0.lv.lv _ _ hz).2
  have zx : atD (ls.map eS) m = some (.tup [.int z1, .int z2]) := by
    have := atD_nat (ls.map eS) m.toNat
    rw [show ((m.toNat : Nat) : Int) = m by omega] at this
    rw [this, List.getElem?_map, hz]; rfl
  obtain ⟨lev, hlev, hlx⟩ := lev_atD (x := th.1) (es := th.2) m0 (by rw [hth]; omega)
  have hlB := t_levelsB th.2 th.1 (by rw [hth]; omega)
  have ad := add_eQ rs (by omega) (m, lev)
  have lG := len_eG ts
  have okm := okRs_app hok (r := (m, lev)) hr
  have g1 : d_goes_with [.val (eG ts), .val (eS (some a, some b)), .val (eQ rs), .val (eP th)] = R (.bl (gwB ts (some a, some b) rs th.1 th.2)) [eG ts, eS (some a, some b), eQ rs, eP th] := t_gw (is2_to eT (fun _ => .inl rfl) ts) (is2_to eR (fun _ => .inl rfl) rs) (some a, some b) th.1 th.2 hok (by omega) (by omega) (by omega)
  have g2 : d_goes_with [.val (eG ts), .val (eS (some a, some b)), .val (eQ (rs ++ [(m, lev)])), .val (eP th)] = R (.bl (gwB ts (some a, some b) (rs ++ [(m, lev)]) th.1 th.2)) [eG ts, eS (some a, some b), eQ (rs ++ [(m, lev)]), eP th] := t_gw (is2_to eT (fun _ => .inl rfl) ts) (is2_to eR (fun _ => .inl rfl) (rs ++ [(m, lev)])) (some a, some b) th.1 th.2 okm (by omega) (by omega) (by simp; omega)
  have gg : gwB ts (some a, some b) (rs ++ [(m, lev)]) th.1 th.2 = gwB ts (some a, some b) rs th.1 th.2 := by
    rw [Bool.eq_iff_iff, gw_iff okm, gw_iff hok, fit_app hok hr]
    exact ⟨fun h => h.1, fun h => ⟨h, hlev⟩⟩
  rw [gg] at g2
  have hgf := gw_iff (s := (some a, some b)) hok th.1 th.2
  generalize gwB ts (some a, some b) rs th.1 th.2 = g at g1 g2 hgf
  have hsame : ∀ d, sm 7 d = true → d__law_same 8 [.val d, .val d] = R (.bl true) [d, d] := fun d h => t_same 7 d h
  have szg := hsame (.bl g) rfl
  have szn := hsame (.lst [.non, .non]) (by simp [sm, smL])
  have szf := hsame (.bl false) rfl
  -- one less than the least, one more than the greatest
  have Tl := toldN (isG' ts) (isR' (rs ++ [(m, z1 - 1)])) hts hs (by omega) (fun x es f => by
    obtain ⟨f1, f2⟩ := (fit_app hok hr x es).mp f
    have := (hzm (z1 - 1)).mpr ⟨x, es, f1, f2⟩
    rw [inS_ss] at this; omega)
  have adl := add_eQ rs (by omega) (m, z1 - 1)
  have adh := add_eQ rs (by omega) (m, z2 + 1)
  obtain ⟨oh, FH, fh⟩ := fw_ok (isG' ts) (isR' (rs ++ [(m, z2 + 1)])) hts hs (okRs_app hok hr) (by omega) (by simp; omega)
  have hoh : ∃ k, oh = some k := by
    cases oh with
    | some k => exact ⟨k, rfl⟩
    | none =>
      exfalso
      refine FH 1000 fun x es f => ?_
      have e : leT (rs ++ [(m, z2 + 1)]) 1000 = rs ++ [(m, z2 + 1)] := by
        unfold leT
        rw [List.filter_eq_self]
        intro r hr'
        have := okRs_app hok (r := (m, z2 + 1)) hr r hr'
        simp; omega
      rw [e] at f
      obtain ⟨f1, f2⟩ := (fit_app hok hr x es).mp f
      have := (hzm (z2 + 1)).mpr ⟨x, es, f1, f2⟩
      rw [inS_ss] at this; omega
  obtain ⟨kh, rfl⟩ := hoh
  have slQ : O.slice none (some 1) (eQ rs) = some (.v (eQ (rs.take 1))) := by
    have h := HT.sIx_nat (rs.map eR).length (rs.map eR).length 1
    have h : HT.sIx (rs.map eR).length (rs.map eR).length (some 1) = _ := h
    have e : cutD (rs.map eR) none (some 1) = (rs.take 1).map eR := by
      unfold cutD
      rw [h, HT.sIx_none, List.drop_zero, Nat.sub_zero, List.length_map, List.map_take, List.take_eq_take_iff, List.length_map]
      omega
    show some (RV.v (.tup (cutD (rs.map eR) none (some 1)))) = _
    rw [e]; rfl
  have ad2 : O.add (eQ rs) (eQ (rs.take 1)) = some (.v (eQ (rs ++ rs.take 1))) := by
    have : (rs ++ rs.take 1).map eR = rs.map eR ++ (rs.take 1).map eR := by simp
    unfold eQ
    rw [this]
    exact if_pos (by rw [List.length_map, List.length_map, List.length_take]; omega)
  have layQ : D.layL 8 (rs.map eR) = true := layL_map 8 eR (fun r => by simp [eR]) rs
  have lQ := len_eQ rs
  refine ⟨u1, hu1.up (by omega), ?_⟩
  refine good_body [eG ts, eS (some a, some b), eQ rs, eP th] rfl ?_
  show Good u1 (b__law_more_right [some (.bref (.lst u)), v (eG ts), v (eS (some a, some b)), v (eQ rs), v (eP th), none, none, none, none, none, none, none, none, none, none, none, none])
  unfold b__law_more_right
  refine gd (sl1 := [some (.bref (.lst u1)), v (eG ts), v (eS (some a, some b)), v (eQ rs), v (eP th), none, none, none, none, none, some (.own (.lst (ls.map eS))), v (.int m), none, none, none, none, none]) (by simp [T0.lev, lG, t1, -O.len]) ?_
  refine gd (nxF (sl1 := [some (.bref (.lst u1)), v (eG ts), v (eS (some a, some b)), v (eQ rs), v (eP th), none, none, none, none, none, some (.own (.lst (ls.map eS))), v (.int m), none, none, none, none, none]) (by simp) rfl) ?_
  refine gd (sl1 := [some (.bref (.lst u1)), v (eG ts), v (eS (some a, some b)), v (eQ rs), v (eP th), none, none, none, none, none, some (.own (.lst (ls.map eS))), v (.int m), v (.int z1), v (.int z2), none, none, none]) (by simp [zx]) ?_
  have thx : eP th = .tup [.int th.1, eRow th.2] := rfl
  have ix0 : O.ix (eP th) (.int 0) = some (.v (.int th.1)) := rfl
  have ix1 : O.ix (eP th) (.int 1) = some (.v (eRow th.2)) := rfl
  refine gd (sl1 := [some (.bref (.lst u1)), v (eG ts), v (eS (some a, some b)), v (eQ rs), v (eP th), v (.int lev), none, none, none, none, some (.own (.lst (ls.map eS))), v (.int m), v (.int z1), v (.int z2), none, none, none]) (by
    have hlx2 : O.ix (.lst ((levT th.1 th.2).map D.int)) (.int m) = some (.v (.int lev)) := by
      show ((atD ((levT th.1 th.2).map D.int) m).map fun d => RV.v d) = _
      rw [hlx]; rfl
    simp [ix0, ix1, hlB, hlx2, -O.ix]) ?_
  refine gd (sl1 := [some (.bref (.lst u1)), v (eG ts), v (eS (some a, some b)), v (eQ rs), v (eP th), v (.int lev), v (.bl g), none, none, none, some (.own (.lst (ls.map eS))), v (.int m), v (.int z1), v (.int z2), none, none, none]) (by simp [g1]) ?_
  refine gd (sl1 := [some (.bref (.lst u1)), v (eG ts), v (eS (some a, some b)), v (eQ rs), v (eP th), v (.int lev), v (.bl g), v (eQ (rs ++ [(m, lev)])), none, none, some (.own (.lst (ls.map eS))), v (.int m), v (.int z1), v (.int z2), none, none, none]) (by simp [ad, -O.add]) ?_
  by_cases hf2 : ∃ x es, Fit ts (some a, some b) (rs ++ [(m, lev)]) x es
  · obtain ⟨ls2, ns2, x2, es2, T2⟩ := toldY hts hs okm (by omega) (by simp; omega) hf2
    have T2 := T2 _ _ (isG' ts) (isR' _)
    have hz2 : ls2[m.toNat]? = some (some lev, some lev) := by
      obtain ⟨w, hw⟩ : ∃ w, ls2[m.toNat]? = some w := ⟨_, List.getElem?_eq_getElem (by rw [T2.lv.ll]; omega)⟩
      obtain ⟨w1, w2⟩ := T2.lv.lv _ _ hw
      rw [hw]
      congr 1
      refine ext_S w1 (by simp [okS]) fun y => ?_
      rw [w2, inS_ss]
      constructor
      · rintro ⟨x, es, f, q⟩
        have := ((fit_app hok hr x es).mp f).2
        unfold RdOk at this
        simp only at this
        rw [q] at this
        have := Option.some.inj this
        omega
      · intro hy
        obtain ⟨x, es, f⟩ := hf2
        have := ((fit_app hok hr x es).mp f).2
        unfold RdOk at this
        simp only at this
        exact ⟨x, es, f, by rw [this, show y = lev by omega]⟩
    have zx2 : atD (ls2.map eS) m = some (.tup [.int lev, .int lev]) := by
      have := atD_nat (ls2.map eS) m.toNat
      rw [show ((m.toNat : Nat) : Int) = m by omega] at this
      rw [this, List.getElem?_map, hz2]; rfl
    refine gd (sl1 := [some (.bref (.lst u1)), v (eG ts), v (eS (some a, some b)), v (eQ rs), v (eP th), v (.int lev), v (.bl g), v (eQ (rs ++ [(m, lev)])), some (.own (.lst (ls2.map eS))), none, some (.own (.lst (ls.map eS))), v (.int m), v (.int z1), v (.int z2), none, none, none]) (by simp [T2.lev]) ?_
    refine gd (nxF (sl1 := [some (.bref (.lst u1)), v (eG ts), v (eS (some a, some b)), v (eQ rs), v (eP th), v (.int lev), v (.bl g), v (eQ (rs ++ [(m, lev)])), some (.own (.lst (ls2.map eS))), none, some (.own (.lst (ls.map eS))), v (.int m), v (.int z1), v (.int z2), none, none, none]) (by cases g <;> simp [zx2, g2, szg] at szg g2 ⊢ <;> simp [g2, szg]) rfl) ?_
    have lcZ : C.lc (C.iterA W.zip (C.acons (C.var 10) (C.acons (C.var 8) C.anil))) (C.gtup 2 (C.gcons (C.gname 15) (C.gcons (C.gname 16) C.gnil))) (C.tor (C.tnot (C.tru (C.ucallM [] d__law_inside (C.acons (C.var 15) (C.acons (C.bin O.ix (C.var 16) (C.const (.int (0)))) C.anil))))) (C.tnot (C.tru (C.ucallM [] d__law_inside (C.acons (C.var 15) (C.acons (C.bin O.ix (C.var 16) (C.const (.int (1)))) C.anil)))))) (C.const (.int (1))) [15, 16] [some (.bref (.lst u1)), v (eG ts), v (eS (some a, some b)), v (eQ rs), v (eP th), v (.int lev), v (.bl g), v (eQ (rs ++ [(m, lev)])), some (.own (.lst (ls2.map eS))), none, some (.own (.lst (ls.map eS))), v (.int m), v (.int z1), v (.int z2), none, none, none] = .ok (.n (.lst [])) [some (.bref (.lst u1)), v (eG ts), v (eS (some a, some b)), v (eQ rs), v (eP th), v (.int lev), v (.bl g), v (eQ (rs ++ [(m, lev)])), v (.lst (ls2.map eS)), none, v (.lst (ls.map eS)), v (.int m), v (.int z1), v (.int z2), none, none, none] := by
      have := lc_is (P := fun d (p : S2 × S2) => d = .tup [eS p.1, eS p.2]) (it := C.iterA W.zip (C.acons (C.var 10) (C.acons (C.var 8) C.anil))) (g := C.gtup 2 (C.gcons (C.gname 15) (C.gcons (C.gname 16) C.gnil))) (t := C.tor (C.tnot (C.tru (C.ucallM [] d__law_inside (C.acons (C.var 15) (C.acons (C.bin O.ix (C.var 16) (C.const (.int (0)))) C.anil))))) (C.tnot (C.tru (C.ucallM [] d__law_inside (C.acons (C.var 15) (C.acons (C.bin O.ix (C.var 16) (C.const (.int (1)))) C.anil)))))) (e := C.const (.int (1))) (vs := [15, 16])
        (sl := [some (.bref (.lst u1)), v (eG ts), v (eS (some a, some b)), v (eQ rs), v (eP th), v (.int lev), v (.bl g), v (eQ (rs ++ [(m, lev)])), some (.own (.lst (ls2.map eS))), none, some (.own (.lst (ls.map eS))), v (.int m), v (.int z1), v (.int z2), none, none, none]) (sl1 := [some (.bref (.lst u1)), v (eG ts), v (eS (some a, some b)), v (eQ rs), v (eP th), v (.int lev), v (.bl g), v (eQ (rs ++ [(m, lev)])), v (.lst (ls2.map eS)), none, v (.lst (ls.map eS)), v (.int m), v (.int z1), v (.int z2), none, none, none]) (as := ls.zip ls2) (fun _ => false) (fun _ => .int 1) (ds := zipD (ls.map eS) (ls2.map eS)) (by simp) (by rw [zipD_map]; exact is2_map _ _) (by rw [zipD_len, List.length_map, List.length_map, T0.lv.ll, T2.lv.ll]; omega) (fun d p hd hp => by
          subst hd
          obtain ⟨p1, p2⟩ := p
          obtain ⟨i, hi⟩ := List.getElem?_of_mem hp
          obtain ⟨i1, i2⟩ := List.getElem?_zip_eq_some.mp hi
          simp only at i1 i2
          obtain ⟨w1, w2, rfl⟩ := T2.lv.fin i2
          obtain ⟨k1, k2⟩ := T2.lv.lv _ _ i2
          obtain ⟨k3, k4⟩ := T0.lv.lv _ _ i1
          have sub : ∀ y, inS (some w1, some w2) y → inB p1 y = true := fun y hy => by
            rw [inB_iff, k4]
            obtain ⟨x, es, f, q⟩ := (k2 y).mp hy
            exact ⟨x, es, ((fit_app hok hr x es).mp f).1, q⟩
          have hw : w1 ≤ w2 := by simpa [okS] using k1
          have s1 := t_inside p1 w1
          have s2 := t_inside p1 w2
          rw [sub w1 (by rw [inS_ss]; omega)] at s1
          rw [sub w2 (by rw [inS_ss]; omega)] at s2
          have ixa : O.ix (eS (some w1, some w2)) (.int 0) = some (.v (.int w1)) := rfl
          have ixb : O.ix (eS (some w1, some w2)) (.int 1) = some (.v (.int w2)) := rfl
          exact ⟨[some (.bref (.lst u1)), v (eG ts), v (eS (some a, some b)), v (eQ rs), v (eP th), v (.int lev), v (.bl g), v (eQ (rs ++ [(m, lev)])), v (.lst (ls2.map eS)), none, v (.lst (ls.map eS)), v (.int m), v (.int z1), v (.int z2), none, v (eS p1), v (eS (some w1, some w2))], by simp, by simp [ixa, ixb, s1, s2, -O.ix], rfl, fun z => by cases z⟩)
      have f0 : (ls.zip ls2).filter (fun _ => false) = [] := by rw [List.filter_eq_nil_iff]; simp
      rw [f0] at this
      exact this
    refine gd (nxF (sl1 := [some (.bref (.lst u1)), v (eG ts), v (eS (some a, some b)), v (eQ rs), v (eP th), v (.int lev), v (.bl g), v (eQ (rs ++ [(m, lev)])), v (.lst (ls2.map eS)), none, v (.lst (ls.map eS)), v (.int m), v (.int z1), v (.int z2), none, none, none]) (by simp [lcZ]) rfl) ?_
    refine gd (nxF (sl1 := [some (.bref (.lst u1)), v (eG ts), v (eS (some a, some b)), v (eQ rs), v (eP th), v (.int lev), v (.bl g), v (eQ (rs ++ [(m, lev)])), v (.lst (ls2.map eS)), none, v (.lst (ls.map eS)), v (.int m), v (.int z1), v (.int z2), none, none, none]) (by simp [adl, Tl.lev, Tl.go, szn, -O.add]) rfl) ?_
    refine gd (nxF (sl1 := [some (.bref (.lst u1)), v (eG ts), v (eS (some a, some b)), v (eQ rs), v (eP th), v (.int lev), v (.bl g), v (eQ (rs ++ [(m, lev)])), v (.lst (ls2.map eS)), none, v (.lst (ls.map eS)), v (.int m), v (.int z1), v (.int z2), none, none, none]) (by simp [adh, fh, szf, show O.add (.int z2) (.int 1) = some (.v (.int (z2 + 1))) from rfl, -O.add]) rfl) ?_
    refine gd (sl1 := [some (.bref (.lst u1)), v (eG ts), v (eS (some a, some b)), v (eQ rs), v (eP th), v (.int lev), v (.bl g), v (eQ (rs ++ [(m, lev)])), v (.lst (ls2.map eS)), v (eQ (rs ++ rs.take 1)), v (.lst (ls.map eS)), v (.int m), v (.int z1), v (.int z2), none, none, none]) (by simp [slQ, ad2, -O.add, -O.slice]) ?_
    have lyQ : D.lay 9 (eQ rs) = true := by simpa [eQ] using layQ
    have lt0 : D.lay 9 (.tup []) = true := rfl
    have eqQ : D.eqv (eQ rs) (.tup []) = rs.isEmpty := by cases rs <;> rfl
    cases hrs : rs with
    | nil =>
      rw [hrs] at eqQ lyQ
      refine gd (nxF (sl1 := [some (.bref (.lst u1)), v (eG ts), v (eS (some a, some b)), v (eQ []), v (eP th), v (.int lev), v (.bl g), v (eQ ([] ++ [(m, lev)])), v (.lst (ls2.map eS)), v (eQ ([] ++ [].take 1)), v (.lst (ls.map eS)), v (.int m), v (.int z1), v (.int z2), none, none, none]) (by simp [lyQ, lt0, eqQ]) rfl) ?_
      exact gdR (sl1 := [some (.bref (.lst u1)), v (eG ts), v (eS (some a, some b)), v (eQ []), v (eP th), v (.int lev), v (.bl g), v (eQ ([] ++ [(m, lev)])), v (.lst (ls2.map eS)), v (eQ ([] ++ [].take 1)), v (.lst (ls.map eS)), v (.int m), v (.int z1), v (.int z2), none, none, none]) (by simp) rfl
    | cons r0 rs0 =>
      have eqF : rs.isEmpty = false := by rw [hrs]; rfl
      rw [eqF] at eqQ
      have ft : ∃ x es, Fit ts (some a, some b) (r0 :: rs0) x es := by
        obtain ⟨x, es, f⟩ := hf2
        rw [← hrs]
        exact ⟨x, es, ((fit_app hok hr x es).mp f).1⟩
      obtain ⟨ok3, f3, n0, n1⟩ := twice_nd hts hs (by rw [← hrs]; exact hok) ft
      have etw : rs ++ rs.take 1 = r0 :: rs0 ++ [r0] := by rw [hrs]; rfl
      rw [← etw] at ok3 f3 n0 n1
      have elen : (r0 :: rs0).length = rs.length := by rw [hrs]
      rw [elen] at n1
      obtain ⟨ls3, ns3, x3, es3, T3⟩ := toldY hts hs ok3 (by omega) (by rw [List.length_append, List.length_take]; omega) f3
      have T3 := (T3 _ _ (isG' ts) (isR' _)).nd
      have any0 := any_eN (ndT ts (some a, some b) (rs ++ rs.take 1)) 0
      have any1 := any_eN (ndT ts (some a, some b) (rs ++ rs.take 1)) rs.length
      rw [decide_eq_true n0] at any0
      rw [decide_eq_true n1] at any1
      have fl := flat_eN (ndT ts (some a, some b) (rs ++ rs.take 1))
      rw [← hrs]
      generalize eN (ndT ts (some a, some b) (rs ++ rs.take 1)) = E at T3 any0 any1 fl
      have ni0 : O.notin (.int 0) (.tup E) = some (.v (.bl false)) := by
        show (if (flatD (.int 0) && E.all flatD) = true then some (RV.v (.bl (!E.any fun z => z.eqv (.int 0)))) else none) = _
        rw [fl]
        have : (E.any fun z => z.eqv (.int 0)) = true := any0
        rw [this]; rfl
      have ni1 : O.notin (.int (rs.length : Nat)) (.tup E) = some (.v (.bl false)) := by
        show (if (flatD (.int (rs.length : Nat)) && E.all flatD) = true then some (RV.v (.bl (!E.any fun z => z.eqv (.int (rs.length : Nat))))) else none) = _
        rw [fl]
        have : (E.any fun z => z.eqv (.int (rs.length : Nat))) = true := any1
        rw [this]; rfl
      refine gd (nxT (sl1 := [some (.bref (.lst u1)), v (eG ts), v (eS (some a, some b)), v (eQ rs), v (eP th), v (.int lev), v (.bl g), v (eQ (rs ++ [(m, lev)])), v (.lst (ls2.map eS)), v (eQ (rs ++ rs.take 1)), v (.lst (ls.map eS)), v (.int m), v (.int z1), v (.int z2), none, none, none]) (by simp [lyQ, lt0, eqQ]) (nxS (sl1 := [some (.bref (.lst u1)), v (eG ts), v (eS (some a, some b)), v (eQ rs), v (eP th), v (.int lev), v (.bl g), v (eQ (rs ++ [(m, lev)])), v (.lst (ls2.map eS)), v (eQ (rs ++ rs.take 1)), v (.lst (ls.map eS)), v (.int m), v (.int z1), v (.int z2), v (.tup E), none, none]) (by simp [T3]) (nxF (sl1 := [some (.bref (.lst u1)), v (eG ts), v (eS (some a, some b)), v (eQ rs), v (eP th), v (.int lev), v (.bl g), v (eQ (rs ++ [(m, lev)])), v (.lst (ls2.map eS)), v (eQ (rs ++ rs.take 1)), v (.lst (ls.map eS)), v (.int m), v (.int z1), v (.int z2), v (.tup E), none, none]) (by simp [ni0, ni1, lQ, -O.notin, -O.len]) rfl))) ?_
      exact gdR (sl1 := [some (.bref (.lst u1)), v (eG ts), v (eS (some a, some b)), v (eQ rs), v (eP th), v (.int lev), v (.bl g), v (eQ (rs ++ [(m, lev)])), v (.lst (ls2.map eS)), v (eQ (rs ++ rs.take 1)), v (.lst (ls.map eS)), v (.int m), v (.int z1), v (.int z2), v (.tup E), none, none]) (by simp) rfl
  · have n2 : NoFit ts (some a, some b) (rs ++ [(m, lev)]) := fun x es h => hf2 ⟨x, es, h⟩
    have T2 := toldN (isG' ts) (isR' (rs ++ [(m, lev)])) hts hs (by omega) n2
    have hg : g = false := by
      cases g with
      | false => rfl
      | true => exact (n2 _ _ ((fit_app hok hr _ _).mpr ⟨hgf.mp rfl, hlev⟩)).elim
    subst hg
    refine gd (sl1 := [some (.bref (.lst u1)), v (eG ts), v (eS (some a, some b)), v (eQ rs), v (eP th), v (.int lev), v (.bl false), v (eQ (rs ++ [(m, lev)])), v .non, none, some (.own (.lst (ls.map eS))), v (.int m), v (.int z1), v (.int z2), none, none, none]) (by simp [T2.lev]) ?_
    refine gd (nxF (sl1 := [some (.bref (.lst u1)), v (eG ts), v (eS (some a, some b)), v (eQ rs), v (eP th), v (.int lev), v (.bl false), v (eQ (rs ++ [(m, lev)])), v .non, none, some (.own (.lst (ls.map eS))), v (.int m), v (.int z1), v (.int z2), none, none, none]) (by simp [g2, szg]) rfl) ?_
    refine gd (nxF (sl1 := [some (.bref (.lst u1)), v (eG ts), v (eS (some a, some b)), v (eQ rs), v (eP th), v (.int lev), v (.bl false), v (eQ (rs ++ [(m, lev)])), v .non, none, some (.own (.lst (ls.map eS))), v (.int m), v (.int z1), v (.int z2), none, none, none]) (by simp) rfl) ?_
    refine gd (nxF (sl1 := [some (.bref (.lst u1)), v (eG ts), v (eS (some a, some b)), v (eQ rs), v (eP th), v (.int lev), v (.bl false), v (eQ (rs ++ [(m, lev)])), v .non, none, some (.own (.lst (ls.map eS))), v (.int m), v (.int z1), v (.int z2), none, none, none]) (by simp [adl, Tl.lev, Tl.go, szn, -O.add]) rfl) ?_
    refine gd (nxF (sl1 := [some (.bref (.lst u1)), v (eG ts), v (eS (some a, some b)), v (eQ rs), v (eP th), v (.int lev), v (.bl false), v (eQ (rs ++ [(m, lev)])), v .non, none, some (.own (.lst (ls.map eS))), v (.int m), v (.int z1), v (.int z2), none, none, none]) (by simp [adh, fh, szf, show O.add (.int z2) (.int 1) = some (.v (.int (z2 + 1))) from rfl, -O.add]) rfl) ?_
    refine gd (sl1 := [some (.bref (.lst u1)), v (eG ts), v (eS (some a, some b)), v (eQ rs), v (eP th), v (.int lev), v (.bl false), v (eQ (rs ++ [(m, lev)])), v .non, v (eQ (rs ++ rs.take 1)), some (.own (.lst (ls.map eS))), v (.int m), v (.int z1), v (.int z2), none, none, none]) (by simp [slQ, ad2, -O.add, -O.slice]) ?_
    have lyQ : D.lay 9 (eQ rs) = true := by simpa [eQ] using layQ
    have lt0 : D.lay 9 (.tup []) = true := rfl
    refine gd (nxF (sl1 := [some (.bref (.lst u1)), v (eG ts), v (eS (some a, some b)), v (eQ rs), v (eP th), v (.int lev), v (.bl false), v (eQ (rs ++ [(m, lev)])), v .non, v (eQ (rs ++ rs.take 1)), some (.own (.lst (ls.map eS))), v (.int m), v (.int z1), v (.int z2), none, none, none]) (by cases h : D.eqv (eQ rs) (.tup []) <;> simp [lyQ, lt0, h]) rfl) ?_
    exact gdR (sl1 := [some (.bref (.lst u1)), v (eG ts), v (eS (some a, some b)), v (eQ rs), v (eP th), v (.int lev), v (.bl false), v (eQ (rs ++ [(m, lev)])), v .non, v (eQ (rs ++ rs.take 1)), some (.own (.lst (ls.map eS))), v (.int m), v (.int z1), v (.int z2), none, none, none]) (by simp) rfl
end RF.L
set_option maxRecDepth 100000
set_option maxHeartbeats 4000000
namespace RF.L
open PySem RF RF.C
/-! ### the law -/
theorem fg_snoc {t : Tri} {e : Ev} : ∀ {ts : List Tri} {es : List Ev}, fgT ts es = true → fit1 t e → fgT (ts ++ [t]) (es ++ [e]) = true
  | [], [], _, h => (fg_cons _ _ _ _).mpr ⟨h, rfl⟩
  | [], _ :: _, h, _ => by have := fg_len h; simp at this
  | _ :: _, [], h, _ => by have := fg_len h; simp at this
  | t' :: ts, e' :: es, h, q => by
    rw [fg_cons] at h
    rw [List.cons_append, List.cons_append, fg_cons]
    exact ⟨h.1, fg_snoc h.2 q⟩
theorem word_of {d : D} (h : d ∈ [D.str "add", D.str "add", D.str "floor", D.str "cap"]) : ∃ w, d = eW w := by
  simp at h
  rcases h with rfl | rfl | rfl
  · exact ⟨.add, rfl⟩
  · exact ⟨.floor, rfl⟩
  · exact ⟨.cap, rfl⟩
theorem guess_loop (d0 : Option SV) : ∀ (ds : List D) (n : Nat) (u : List D), Urn n u → n + 4 * ds.length < 900000 → (∀ d ∈ ds, ∃ i : Int, d = .int i) → ∀ (ts : List Tri) (es : List Ev), (∀ t ∈ ts, t.l ≤ t.h ∧ t.h ≤ t.l + 2 ∧ -6 ≤ t.l ∧ t.l ≤ 6) → fgT ts es = true → ts.length + ds.length < 1000 → ∀ (j2 j3 j4 j5 j6 j7 j8 j11 j12 j13 j14 j15 j16 j17 j18 j19 : Option SV), frB j3 = true → frB j11 = true → frB j17 = true → frB j18 = true →
    ∃ u' ts' es' k3 k11 k17 k18, Urn (n + 4 * ds.length) u' ∧ (∀ t ∈ ts', t.l ≤ t.h ∧ t.h ≤ t.l + 2 ∧ -6 ≤ t.l ∧ t.l ≤ 6) ∧ fgT ts' es' = true ∧ ts'.length = ts.length + ds.length ∧ frB k3 = true ∧ frB k11 = true ∧ frB k17 = true ∧ frB k18 = true ∧
    C.loop (C.gname 3) (C.seq (C.par [17, 18] (C.racons (C.ucallM [true, false] d__law_of (C.acons (C.var 1) (C.acons (C.lst (C.acons (C.const (.str "add")) (C.acons (C.const (.str "add")) (C.acons (C.const (.str "floor")) (C.acons (C.const (.str "cap")) C.anil))))) C.anil))) (C.racons (C.ucallM [true, false] d__law_number (C.acons (C.var 1) (C.acons (C.const (.int (6))) C.anil))) C.anil)))
    (C.seq (C.set 11 (C.bin O.add (C.var 18) (C.ucallM [true, false] d__law_take (C.acons (C.var 1) (C.acons (C.const (.int (3))) C.anil)))))
    (C.seq (C.drop (C.mcall M.append 9 (C.acons (C.tup (C.acons (C.var 17) (C.acons (C.var 18) (C.acons (C.var 11) C.anil)))) C.anil)))
    (C.drop (C.mcall M.append 10 (C.acons (C.tup (C.acons (C.var 17) (C.acons (C.bin O.add (C.var 18) (C.ucallM [true, false] d__law_take (C.acons (C.var 1) (C.acons (C.bin O.add (C.bin O.sub (C.var 11) (C.var 18)) (C.const (.int (1)))) C.anil)))) C.anil))) C.anil)))))) ds [d0, some (.own (.lst u)), j2, j3, j4, j5, j6, j7, j8, some (.own (.lst (ts.map eT))), some (.own (.lst (es.map eE))), j11, j12, j13, j14, j15, j16, j17, j18, j19] = .nx [d0, some (.own (.lst u')), j2, k3, j4, j5, j6, j7, j8, some (.own (.lst (ts'.map eT))), some (.own (.lst (es'.map eE))), k11, j12, j13, j14, j15, j16, k17, k18, j19]
  | [], n, u, hu, _, _, ts, es, hts, hf, _, j2, j3, j4, j5, j6, j7, j8, j11, j12, j13, j14, j15, j16, j17, j18, j19, h3, h11, h17, h18 => ⟨u, ts, es, j3, j11, j17, j18, hu, hts, hf, rfl, h3, h11, h17, h18, rfl⟩
  | d :: ds, n, u, hu, hn, hd, ts, es, hts, hf, hl, j2, j3, j4, j5, j6, j7, j8, j11, j12, j13, j14, j15, j16, j17, j18, j19, h3, h11, h17, h18 => by
    simp only [List.length_cons] at hn hl
    obtain ⟨i, rfl⟩ := hd d (by simp)
    obtain ⟨wd, u1, a1, a2, a3⟩ := t_of hu (by omega) (l := [.str "add", .str "add", .str "floor", .str "cap"]) (by simp) (by simp)
    obtain ⟨w, rfl⟩ := word_of a1
    obtain ⟨l, u2, b1, b2, b3, b4⟩ := t_number a2 (by omega) (far := 6) (by omega) (by omega)
    obtain ⟨q, u3, c1, c2, c3, c4⟩ := t_take b3 (by omega) (low := 3) (by omega) (by omega)
    obtain ⟨r, u4, e1, e2, e3, e4⟩ := t_take c3 (by omega) (low := l + q - l + 1) (by omega) (by omega)
    have hlen := fg_len hf
    obtain ⟨u', ts', es', k3, k11, k17, k18, g1, g2, g3, g4, g5, g6, g7, g8, g9⟩ := guess_loop d0 ds (n + 1 + 1 + 1 + 1) u4 e3 (by omega) (fun d h => hd d (by simp [h])) (ts ++ [⟨w, l, l + q⟩]) (es ++ [(w, l + r)]) (fun t ht => by
      rcases List.mem_append.mp ht with h | h
      · exact hts t h
      · have : t = ⟨w, l, l + q⟩ := by simpa using h
        subst this
        simp only
        omega) (fg_snoc hf ⟨rfl, by simp only; omega, by simp only; omega⟩) (by simp; omega) j2 (v (.int i)) j4 j5 j6 j7 j8 (v (.int (l + q))) j12 j13 j14 j15 j16 (v (eW w)) (v (.int l)) j19 rfl rfl rfl rfl
    refine ⟨u', ts', es', k3, k11, k17, k18, g1.up (by simp; omega), g2, g3, by rw [g4]; simp; omega, g5, g6, g7, g8, ?_⟩
    rw [← g9]
    have hl1 : ts.length < 16777216 := by omega
    have hl2 : es.length < 16777216 := by omega
    have m1 : (ts ++ [(⟨w, l, l + q⟩ : Tri)]).map eT = ts.map eT ++ [.tup [eW w, .int l, .int (l + q)]] := by simp [eT]
    have m2 : (es ++ [((w, l + r) : Ev)]).map eE = es.map eE ++ [.tup [eW w, .int (l + r)]] := by simp [eE]
    rw [m1, m2, loop_cons]
    simp [-free?, ev_free, h3, h11, h17, h18, a3, b4, c4, e4, hl1, hl2]
theorem read_lc (d0 : Option SV) (line : List Int) (j2 j5 j6 j7 j8 j9 j10 j11 j12 j13 j14 j15 j16 j17 j18 j19 : Option SV) : ∀ (ms : List Int) (n : Nat) (u : List D), Urn n u → n + ms.length < 900000 → (∀ m ∈ ms, 0 ≤ m ∧ m < line.length) → ∀ (x3 : Option SV),
    ∃ (u' : List D) (rs : List Rd) (y3 : Option SV), Urn (n + ms.length) u' ∧ rs.length = ms.length ∧ (∀ r ∈ rs, 0 ≤ r.1 ∧ r.1 < line.length) ∧ C.lcrun (C.gname 3) C.tyes (C.tup (C.acons (C.var 3) (C.acons (C.bin O.add (C.bin O.ix (C.var 4) (C.var 3)) (C.ite (C.tv (C.bin O.gt (C.ucallM [true, false] d__law_take (C.acons (C.var 1) (C.acons (C.const (.int (6))) C.anil))) (C.const (.int (0))))) (C.const (.int (0))) (C.const (.int (1))))) C.anil))) [3] (ms.map D.int) [d0, some (.own (.lst u)), j2, x3, some (.own (.lst (line.map D.int))), j5, j6, j7, j8, j9, j10, j11, j12, j13, j14, j15, j16, j17, j18, j19] = some (rs.map eR, [d0, some (.own (.lst u')), j2, y3, some (.own (.lst (line.map D.int))), j5, j6, j7, j8, j9, j10, j11, j12, j13, j14, j15, j16, j17, j18, j19])
  | [], n, u, hu, _, _, x3 => ⟨u, [], x3, hu, rfl, by simp, rfl⟩
  | m :: ms, n, u, hu, hn, hm, x3 => by
    simp only [List.length_cons] at hn
    obtain ⟨q, u1, a1, a2, a3, a4⟩ := t_take hu (by omega) (low := 6) (by omega) (by omega)
    have hmm := hm m (by simp)
    obtain ⟨y, hy⟩ : ∃ y, line[m.toNat]? = some y := ⟨_, List.getElem?_eq_getElem (by omega)⟩
    have hx : atD (line.map D.int) m = some (.int y) := by
      have := atD_nat (line.map D.int) m.toNat
      rw [show ((m.toNat : Nat) : Int) = m by omega] at this
      rw [this, List.getElem?_map, hy]; rfl
    obtain ⟨u', rs, y3, b1, b2, b3, b4⟩ := read_lc d0 line j2 j5 j6 j7 j8 j9 j10 j11 j12 j13 j14 j15 j16 j17 j18 j19 ms (n + 1) u1 a3 (by omega) (fun m h => hm m (by simp [h])) (v (.int m))
    by_cases h : 0 < q
    · refine ⟨u', (m, y + 0) :: rs, y3, b1.up (by simp; omega), by simp [b2], fun r hr => ?_, ?_⟩
      · rcases List.mem_cons.mp hr with rfl | hr
        · exact hmm
        · exact b3 r hr
      · rw [List.map_cons, lcrun_cons]
        simp [a4, hx, h, b4, eR]
    · refine ⟨u', (m, y + 1) :: rs, y3, b1.up (by simp; omega), by simp [b2], fun r hr => ?_, ?_⟩
      · rcases List.mem_cons.mp hr with rfl | hr
        · exact hmm
        · exact b3 r hr
      · rw [List.map_cons, lcrun_cons]
        simp [a4, hx, h, b4, eR]
/-- the guess in two halves of one number -/
theorem fg_mid (t : Tri) (m : Int) (h1 : t.l ≤ m) (h2 : m < t.h) : ∀ (pre post : List Tri) (es : List Ev), fgT (pre ++ t :: post) es = true ↔ fgT (pre ++ ⟨t.w, t.l, m⟩ :: post) es = true ∨ fgT (pre ++ ⟨t.w, m + 1, t.h⟩ :: post) es = true
  | [], post, [] => by constructor <;> intro h <;> (try rcases h with h | h) <;> (have := fg_len h; simp at this)
  | [], post, e :: es => by
    rw [List.nil_append, List.nil_append, List.nil_append, fg_cons, fg_cons, fg_cons]
    simp only [fit1]
    constructor
    · rintro ⟨⟨a, b, c⟩, d⟩
      by_cases q : e.2 ≤ m
      · exact .inl ⟨⟨a, b, q⟩, d⟩
      · exact .inr ⟨⟨a, by omega, c⟩, d⟩
    · rintro (⟨⟨a, b, c⟩, d⟩ | ⟨⟨a, b, c⟩, d⟩)
      · exact ⟨⟨a, b, by omega⟩, d⟩
      · exact ⟨⟨a, by omega, c⟩, d⟩
  | p :: pre, post, [] => by constructor <;> intro h <;> (try rcases h with h | h) <;> (have := fg_len h; simp at this)
  | p :: pre, post, e :: es => by
    have ih := fg_mid t m h1 h2 pre post es
    rw [List.cons_append, List.cons_append, List.cons_append, fg_cons, fg_cons, fg_cons, ih]
    constructor
    · rintro ⟨a, b | b⟩
      · exact .inl ⟨a, b⟩
      · exact .inr ⟨a, b⟩
    · rintro (⟨a, b⟩ | ⟨a, b⟩)
      · exact ⟨a, .inl b⟩
      · exact ⟨a, .inr b⟩
theorem parts_guess {pre post : List Tri} {t : Tri} {m : Int} (s : S2) (h1 : t.l ≤ m) (h2 : m < t.h) : Parts (pre ++ t :: post) s (pre ++ ⟨t.w, t.l, m⟩ :: post) s (pre ++ ⟨t.w, m + 1, t.h⟩ :: post) s := by
  have w : ∀ (t' : Tri), t'.w = t.w → ∀ (k : Nat) (a b : Tri), (pre ++ t :: post)[k]? = some a → (pre ++ t' :: post)[k]? = some b → b.w = a.w := by
    intro t' ht k a b ha hb
    by_cases q : k < pre.length
    · rw [List.getElem?_append_left q] at ha hb
      rw [ha] at hb; cases hb; rfl
    · rw [List.getElem?_append_right (by omega)] at ha hb
      cases e : k - pre.length with
      | zero => rw [e] at ha hb; simp at ha hb; subst ha hb; exact ht
      | succ i => rw [e] at ha hb; simp at ha hb; rw [ha] at hb; cases hb; rfl
  refine ⟨by simp, by simp, w _ rfl, w _ rfl, fun x es => ?_⟩
  rw [fg_mid t m h1 h2]
  constructor
  · rintro ⟨a, b | b⟩
    · exact .inl ⟨a, b⟩
    · exact .inr ⟨a, b⟩
  · rintro (⟨a, b⟩ | ⟨a, b⟩)
    · exact ⟨a, .inl b⟩
    · exact ⟨a, .inr b⟩
theorem parts_starts {ts : List Tri} {s s1 s2 : S2} (h : ∀ x, inS s x ↔ inS s1 x ∨ inS s2 x) : Parts ts s ts s1 ts s2 := by
  refine ⟨rfl, rfl, fun k a b ha hb => by rw [ha] at hb; cases hb; rfl, fun k a b ha hb => by rw [ha] at hb; cases hb; rfl, fun x es => ?_⟩
  rw [h]
  constructor
  · rintro ⟨a | a, b⟩
    · exact .inl ⟨a, b⟩
    · exact .inr ⟨a, b⟩
  · rintro (⟨a, b⟩ | ⟨a, b⟩)
    · exact ⟨.inl a, b⟩
    · exact ⟨.inr a, b⟩
theorem t_istriple (t : Tri) (h : okT t) : d_is_triple [.val (eT t)] = R (.bl true) [eT t] := by
  rcases t with ⟨w, l, u⟩
  have h2 : l ≤ u := h
  cases w <;> simp [d_is_triple, b_is_triple, eT, eW, t_isnum, k_WORDS, h2]
theorem t_isguess (ts : List Tri) (hl : ts.length ≤ 1000000) (h : okTs ts) : d_is_guess [.val (eG ts)] = R (.bl true) [eG ts] := by
  have lc := lc_is (P := fun d (t : Tri) => d = eT t) (it := C.iter (C.var 0)) (g := C.gname 1) (t := C.tyes) (e := C.ucallM [] d_is_triple (C.acons (C.var 1) C.anil)) (vs := [1]) (sl := [v (eG ts), none]) (sl1 := [v (eG ts), none]) (as := ts) (fun _ => true) (fun _ => .bl true)
    (ds := ts.map eT) (by simp [eG]) (is2_map _ _) (by rw [List.length_map]; exact hl) (fun d e hd he => by
      subst hd
      have h := t_istriple e (h e he)
      exact ⟨[v (eG ts), v (eT e)], by simp, rfl, rfl, fun _ => ⟨.v (.bl true), [v (eG ts), v (eT e)], [v (eG ts), v (eT e)], by simp [h], rfl, rfl⟩⟩)
  rw [filter_yes] at lc
  have hb := bls_map (fun _ : Tri => true) ts
  simp only [d_is_guess, C.body, b_is_guess]
  unfold eG at lc ⊢
  simp [lc, hb]
theorem all_told {n : Nat} {u : List D} (hu : Urn n u) (hn : n < 900000) {ts : List Tri} {rs : List Rd} (hts : SmT ts) (hok : okRs ts.length rs) (hlr : rs.length < 60) {a b : Int} (ha : -1000 ≤ a) (hb : b ≤ a + 100) (hab : a ≤ 1000) (hle : a ≤ b)
    {s1 s2 : Int × List Ev} (hs1 : s1.2.length < 1000) (hs2 : s2.2.length < 1000) : ∃ u', Urn (n + 2) u' ∧ d__law_all_told [.bref (.lst u), .val (eG ts), .val (eS (some a, some b)), .val (eQ rs), .val (.lst [eP s1, eP s2])] = .ok (.v (.bl true)) [some (.bref (.lst u')), v (eG ts), v (eS (some a, some b)), v (eQ rs), v (.lst [eP s1, eP s2])] := by
  by_cases h : ∃ x es, Fit ts (some a, some b) rs x es
  · exact all_told_Y hu hn hts hok hlr ha hb hab hle hs1 hs2 h
  · exact all_told_N hu hn hts hok hlr ha hb hab hle hs1 hs2 fun x es q => h ⟨x, es, q⟩
theorem more_right {n : Nat} {u : List D} (hu : Urn n u) (hn : n < 900000) {ts : List Tri} {rs : List Rd} {a b : Int} {th : Int × List Ev} (hts : okTs ts) (hle : a ≤ b) (hok : okRs ts.length rs) (hl : ts.length < 900) (hlr : rs.length < 50) (hth : th.2.length = ts.length) :
    ∃ u', Urn (n + 2) u' ∧ d__law_more_right [.bref (.lst u), .val (eG ts), .val (eS (some a, some b)), .val (eQ rs), .val (eP th)] = .ok (.v (.bl true)) [some (.bref (.lst u')), v (eG ts), v (eS (some a, some b)), v (eQ rs), v (eP th)] := by
  by_cases h : ∃ x es, Fit ts (some a, some b) rs x es
  · exact more_Y hu hn hts hle hok hl hlr hth h
  · exact more_N hu hn hts hle hok hl hlr fun x es q => h ⟨x, es, q⟩
end RF.L
set_option maxRecDepth 100000
set_option maxHeartbeats 4000000
namespace RF.L
open PySem RF RF.C
theorem slc_G (ts : List Tri) (k : Nat) (h : k < ts.length) : O.slice none (some (k : Int)) (eG ts) = some (.v (eG (ts.take k))) ∧ O.slice (some ((k : Int) + 1)) none (eG ts) = some (.v (eG (ts.drop (k + 1)))) := by
  constructor
  · have h1 := HT.sIx_nat (ts.map eT).length (ts.map eT).length k
    have e : cutD (ts.map eT) none (some (k : Int)) = (ts.take k).map eT := by
      unfold cutD
      rw [h1, HT.sIx_none, List.drop_zero, Nat.sub_zero, List.length_map, Nat.min_eq_left (by omega), List.map_take]
    show some (RV.v (.tup (cutD (ts.map eT) none (some (k : Int))))) = _
    rw [e]; rfl
  · have h1 := HT.sIx_nat (ts.map eT).length 0 (k + 1)
    have h1 : HT.sIx (ts.map eT).length 0 (some ((k : Int) + 1)) = _ := h1
    have e : cutD (ts.map eT) (some ((k : Int) + 1)) none = (ts.drop (k + 1)).map eT := by
      unfold cutD
      rw [h1, HT.sIx_none, List.length_map, Nat.min_eq_left (by omega), List.map_drop]
      apply List.take_of_length_le
      rw [List.length_drop, List.length_map]
      omega
    show some (RV.v (.tup (cutD (ts.map eT) (some ((k : Int) + 1)) none))) = _
    rw [e]; rfl
theorem add_G (x y : List Tri) (h : x.length + y.length ≤ 1000) : O.add (eG x) (eG y) = some (.v (eG (x ++ y))) := by
  unfold eG
  rw [List.map_append]
  exact if_pos (by rw [List.length_map, List.length_map]; omega)
theorem cK (d0 : Option SV) {n : Nat} {u : List D} (hu : Urn n u) (hn : n < 800000) {ts : List Tri} {rs : List Rd} {a b : Int} {th : Int × List Ev} (hts : SmT ts) (hle : a ≤ b) (hba : b ≤ a + 100) (hok : okRs ts.length rs) (hlr : rs.length < 40) (hth : th.2.length = ts.length) {j2 j3 j4 j7 j8 j11 j15 j16 j17 j18 j19 : Option SV} (h3 : frB j3 = true) (h7 : frB j7 = true) (h11 : frB j11 = true) (h15 : frB j15 = true) (h16 : frB j16 = true) (h17 : frB j17 = true) (h18 : frB j18 = true) : ∃ (u' : List D) (k3 k7 k11 k15 k16 k17 k18 : Option SV), Urn (n + 4) u' ∧ frB k3 = true ∧ frB k7 = true ∧ frB k11 = true ∧ frB k15 = true ∧ frB k16 = true ∧ frB k17 = true ∧ frB k18 = true ∧ (C.seq (C.set 7 (C.lc (C.iterA W.enum (C.acons (C.var 9) C.anil)) (C.gtup 2 (C.gcons (C.gname 3) (C.gcons (C.gtup 3 (C.gcons (C.gname 17) (C.gcons (C.gname 18) (C.gcons (C.gname 11) C.gnil)))) C.gnil))) (C.tv (C.bin O.lt (C.var 18) (C.var 11))) (C.var 3) [3, 17, 18, 11])) (C.ifS (C.tv (C.bin O.ne (C.var 7) (C.lst C.anil))) (C.seq (C.set 3 (C.ucallM [true, false] d__law_of (C.acons (C.var 1) (C.acons (C.var 7) C.anil))))
    (C.seq (C.asg (C.gtup 3 (C.gcons (C.gname 17) (C.gcons (C.gname 18) (C.gcons (C.gname 11) C.gnil)))) (C.bin O.ix (C.var 9) (C.var 3)))
    (C.seq (C.set 15 (C.bin O.add (C.var 18) (C.ucallM [true, false] d__law_take (C.acons (C.var 1) (C.acons (C.bin O.sub (C.var 11) (C.var 18)) C.anil)))))
    (C.seq (C.set 16 (C.lst (C.acons (C.tup (C.acons (C.bin O.add (C.bin O.add (C.slice (C.var 9) C.pnone (C.psome (C.var 3))) (C.tup (C.acons (C.tup (C.acons (C.var 17) (C.acons (C.var 18) (C.acons (C.var 15) C.anil)))) C.anil))) (C.slice (C.var 9) (C.psome (C.bin O.add (C.var 3) (C.const (.int (1))))) C.pnone)) (C.acons (C.var 13) C.anil))) (C.acons (C.tup (C.acons (C.bin O.add (C.bin O.add (C.slice (C.var 9) C.pnone (C.psome (C.var 3))) (C.tup (C.acons (C.tup (C.acons (C.var 17) (C.acons (C.bin O.add (C.var 15) (C.const (.int (1)))) (C.acons (C.var 11) C.anil)))) C.anil))) (C.slice (C.var 9) (C.psome (C.bin O.add (C.var 3) (C.const (.int (1))))) C.pnone)) (C.acons (C.var 13) C.anil))) C.anil))))
    (C.ifS (C.tnot (C.tru (C.ucallM [true, false, false, false, false] d__law_halves_right (C.acons (C.var 1) (C.acons (C.tup (C.acons (C.var 9) (C.acons (C.var 13) C.anil))) (C.acons (C.var 16) (C.acons (C.var 5) (C.acons (C.var 6) C.anil)))))))) (C.ret (C.const (.bl false))) C.pass))))) C.pass)) [d0, some (.own (.lst u)), j2, j3, j4, v (eQ rs), v (eP th), j7, j8, v (eG ts), v (eRow th.2), j11, v (.int a), v (eS (some a, some b)), v (.int a), j15, j16, j17, j18, j19] = .nx [d0, some (.own (.lst u')), j2, k3, j4, v (eQ rs), v (eP th), k7, j8, v (eG ts), v (eRow th.2), k11, v (.int a), v (eS (some a, some b)), v (.int a), k15, k16, k17, k18, j19] := by
  have hs : okS (some a, some b) = true := by simpa [okS] using hle
  have h4 := hts.len
  have lc : C.lc (C.iterA W.enum (C.acons (C.var 9) C.anil)) (C.gtup 2 (C.gcons (C.gname 3) (C.gcons (C.gtup 3 (C.gcons (C.gname 17) (C.gcons (C.gname 18) (C.gcons (C.gname 11) C.gnil)))) C.gnil))) (C.tv (C.bin O.lt (C.var 18) (C.var 11))) (C.var 3) [3, 17, 18, 11] [d0, some (.own (.lst u)), j2, j3, j4, v (eQ rs), v (eP th), j7, j8, v (eG ts), v (eRow th.2), j11, v (.int a), v (eS (some a, some b)), v (.int a), j15, j16, j17, j18, j19] = .ok (.n (.lst (eN ((ts.zipIdx.filter fun p => decide (p.1.l < p.1.h)).map (·.2))))) [d0, some (.own (.lst u)), j2, j3, j4, v (eQ rs), v (eP th), j7, j8, v (eG ts), v (eRow th.2), j11, v (.int a), v (eS (some a, some b)), v (.int a), j15, j16, j17, j18, j19] := by
    have := lc_is (P := fun d (p : Tri × Nat) => d = .tup [.int (p.2 : Nat), eT p.1]) (it := C.iterA W.enum (C.acons (C.var 9) C.anil)) (g := C.gtup 2 (C.gcons (C.gname 3) (C.gcons (C.gtup 3 (C.gcons (C.gname 17) (C.gcons (C.gname 18) (C.gcons (C.gname 11) C.gnil)))) C.gnil))) (t := C.tv (C.bin O.lt (C.var 18) (C.var 11))) (e := C.var 3) (vs := [3, 17, 18, 11])
      (sl := [d0, some (.own (.lst u)), j2, j3, j4, v (eQ rs), v (eP th), j7, j8, v (eG ts), v (eRow th.2), j11, v (.int a), v (eS (some a, some b)), v (.int a), j15, j16, j17, j18, j19]) (sl1 := [d0, some (.own (.lst u)), j2, j3, j4, v (eQ rs), v (eP th), j7, j8, v (eG ts), v (eRow th.2), j11, v (.int a), v (eS (some a, some b)), v (.int a), j15, j16, j17, j18, j19]) (as := ts.zipIdx) (fun p => decide (p.1.l < p.1.h)) (fun p => .int (p.2 : Nat)) (ds := enumD 0 (ts.map eT)) (by simp [eG]) (by rw [enumD_map]; exact is2_map _ _) (by rw [enumD_len, List.length_map]; omega) (fun d p hd hp => by
        subst hd
        exact ⟨[d0, some (.own (.lst u)), j2, v (.int (p.2 : Nat)), j4, v (eQ rs), v (eP th), j7, j8, v (eG ts), v (eRow th.2), v (.int p.1.h), v (.int a), v (eS (some a, some b)), v (.int a), j15, j16, v (eW p.1.w), v (.int p.1.l), j19], by simp [eT], by simp, rfl, fun _ => ⟨.v (.int (p.2 : Nat)), [d0, some (.own (.lst u)), j2, v (.int (p.2 : Nat)), j4, v (eQ rs), v (eP th), j7, j8, v (eG ts), v (eRow th.2), v (.int p.1.h), v (.int a), v (eS (some a, some b)), v (.int a), j15, j16, v (eW p.1.w), v (.int p.1.l), j19], [d0, some (.own (.lst u)), j2, v (.int (p.2 : Nat)), j4, v (eQ rs), v (eP th), j7, j8, v (eG ts), v (eRow th.2), v (.int p.1.h), v (.int a), v (eS (some a, some b)), v (.int a), j15, j16, v (eW p.1.w), v (.int p.1.l), j19], by simp, rfl, rfl⟩⟩)
    rw [this]
    unfold eN
    rw [List.map_map]
    rfl
  generalize hc : ((ts.zipIdx.filter fun p => decide (p.1.l < p.1.h)).map (·.2)) = cuts at lc
  have hcm : ∀ k ∈ cuts, ∃ t, ts[k]? = some t ∧ t.l < t.h := fun k hk => by
    rw [← hc] at hk
    obtain ⟨p, hp, rfl⟩ := List.mem_map.mp hk
    obtain ⟨hp1, hp2⟩ := List.mem_filter.mp hp
    obtain ⟨i, hi⟩ := List.getElem?_of_mem hp1
    rw [List.getElem?_zipIdx] at hi
    cases q : ts[i]? with
    | none => rw [q] at hi; cases hi
    | some t =>
      rw [q] at hi
      simp at hi
      rw [← hi]
      exact ⟨t, q, by rw [← hi] at hp2; simpa using hp2⟩
  have hcl : cuts.length ≤ 4 := by
    rw [← hc, List.length_map]
    refine Nat.le_trans (List.length_filter_le _ _) ?_
    rw [List.length_zipIdx]; exact h4
  have hlay : D.layL 8 (eN cuts) = true := by
    have := layL_map 8 (fun (i : Nat) => D.int i) (fun a => by simp) cuts
    exact this
  have hem : D.eqvL (eN cuts) [] = cuts.isEmpty := by
    rw [eqvL_nil]; cases cuts <;> rfl
  have s1 : C.set 7 (C.lc (C.iterA W.enum (C.acons (C.var 9) C.anil)) (C.gtup 2 (C.gcons (C.gname 3) (C.gcons (C.gtup 3 (C.gcons (C.gname 17) (C.gcons (C.gname 18) (C.gcons (C.gname 11) C.gnil)))) C.gnil))) (C.tv (C.bin O.lt (C.var 18) (C.var 11))) (C.var 3) [3, 17, 18, 11]) [d0, some (.own (.lst u)), j2, j3, j4, v (eQ rs), v (eP th), j7, j8, v (eG ts), v (eRow th.2), j11, v (.int a), v (eS (some a, some b)), v (.int a), j15, j16, j17, j18, j19] = .nx [d0, some (.own (.lst u)), j2, j3, j4, v (eQ rs), v (eP th), some (.own (.lst (eN cuts))), j8, v (eG ts), v (eRow th.2), j11, v (.int a), v (eS (some a, some b)), v (.int a), j15, j16, j17, j18, j19] := by
    simp [-free?, ev_free, h7, lc]
  cases hcut : cuts.isEmpty with
  | true =>
    rw [hcut] at hem
    refine ⟨u, j3, some (.own (.lst (eN cuts))), j11, j15, j16, j17, j18, hu.up (by omega), h3, rfl, h11, h15, h16, h17, h18, ?_⟩
    refine nxS s1 (nxF (sl1 := [d0, some (.own (.lst u)), j2, j3, j4, v (eQ rs), v (eP th), some (.own (.lst (eN cuts))), j8, v (eG ts), v (eRow th.2), j11, v (.int a), v (eS (some a, some b)), v (.int a), j15, j16, j17, j18, j19]) (by simp [hlay, hem]) rfl)
  | false =>
    rw [hcut] at hem
    have hne : eN cuts ≠ [] := by cases cuts with
      | nil => cases hcut
      | cons a l => simp [eN]
    obtain ⟨d, u1, a1, a2, a3⟩ := t_of hu (by omega) hne (by unfold eN; rw [List.length_map]; omega)
    obtain ⟨k, hk, rfl⟩ := List.mem_map.mp a1
    obtain ⟨t, ht, hlt⟩ := hcm k hk
    have hkl : k < ts.length := (List.getElem?_eq_some_iff.mp ht).1
    have hto := hts.ok t (List.mem_of_getElem? ht)
    obtain ⟨q, u2, b1, b2, b3, b4⟩ := t_take a2 (by omega) (low := t.h - t.l) (by omega) (by omega)
    have ix9 : O.ix (eG ts) (.int (k : Nat)) = some (.v (.tup [eW t.w, .int t.l, .int t.h])) := by
      show ((atD (ts.map eT) (k : Nat)).map fun d => RV.v d) = _
      rw [atD_nat, List.getElem?_map, ht]; rfl
    obtain ⟨c1, c2⟩ := slc_G ts k hkl
    have e0 : ts = ts.take k ++ t :: ts.drop (k + 1) := by
      have e2 : ts[k] = t := (List.getElem?_eq_some_iff.mp ht).2
      rw [← e2, ← List.drop_eq_getElem_cons hkl, List.take_append_drop]
    have P := parts_guess (pre := ts.take k) (post := ts.drop (k + 1)) (t := t) (m := t.l + q) (some a, some b) (by omega) (by omega)
    rw [← e0] at P
    have g1a : O.add (eG (ts.take k)) (.tup [.tup [eW t.w, .int t.l, .int (t.l + q)]]) = some (.v (eG (ts.take k ++ [⟨t.w, t.l, t.l + q⟩]))) := add_G (ts.take k) [⟨t.w, t.l, t.l + q⟩] (by rw [List.length_take]; simp; omega)
    have g1b := add_G (ts.take k ++ [⟨t.w, t.l, t.l + q⟩]) (ts.drop (k + 1)) (by rw [List.length_append, List.length_take, List.length_drop]; simp; omega)
    have g2a : O.add (eG (ts.take k)) (.tup [.tup [eW t.w, .int (t.l + q + 1), .int t.h]]) = some (.v (eG (ts.take k ++ [⟨t.w, t.l + q + 1, t.h⟩]))) := add_G (ts.take k) [⟨t.w, t.l + q + 1, t.h⟩] (by rw [List.length_take]; simp; omega)
    have g2b := add_G (ts.take k ++ [⟨t.w, t.l + q + 1, t.h⟩]) (ts.drop (k + 1)) (by rw [List.length_append, List.length_take, List.length_drop]; simp; omega)
    have okt : ∀ t' : Tri, okT t' → okTs (ts.take k ++ t' :: ts.drop (k + 1)) := fun t' h t'' ht'' => by
      rcases List.mem_append.mp ht'' with h1 | h1
      · exact hts.okTs t'' (List.mem_of_mem_take h1)
      · rcases List.mem_cons.mp h1 with rfl | h1
        · exact h
        · exact hts.okTs t'' (List.mem_of_mem_drop h1)
    obtain ⟨u3, e3, hv⟩ := halves_right (th := th) b3 (by omega) P hts.okTs (okt _ (by simp only [okT]; omega)) (okt _ (by simp only [okT]; omega)) hs hs hs hok (by omega) (by omega) (by omega)
    have ea : ts.take k ++ [⟨t.w, t.l, t.l + q⟩] ++ ts.drop (k + 1) = ts.take k ++ ⟨t.w, t.l, t.l + q⟩ :: ts.drop (k + 1) := by simp
    have eb : ts.take k ++ [⟨t.w, t.l + q + 1, t.h⟩] ++ ts.drop (k + 1) = ts.take k ++ ⟨t.w, t.l + q + 1, t.h⟩ :: ts.drop (k + 1) := by simp
    rw [ea] at g1b
    rw [eb] at g2b
    generalize (ts.take k ++ ⟨t.w, t.l, t.l + q⟩ :: ts.drop (k + 1)) = Ta at g1b hv
    generalize (ts.take k ++ ⟨t.w, t.l + q + 1, t.h⟩ :: ts.drop (k + 1)) = Tb at g2b hv
    generalize (ts.take k ++ [⟨t.w, t.l, t.l + q⟩]) = Tc at g1a g1b
    generalize (ts.take k ++ [⟨t.w, t.l + q + 1, t.h⟩]) = Td at g2a g2b
    have ad0 : O.add (.int (k : Nat)) (.int 1) = some (.v (.int ((k : Int) + 1))) := rfl
    have ad1 : ∀ x y : Int, O.add (.int x) (.int y) = some (.v (.int (x + y))) := fun _ _ => rfl
    have s2 : C.set 3 (C.ucallM [true, false] d__law_of (C.acons (C.var 1) (C.acons (C.var 7) C.anil))) [d0, some (.own (.lst u)), j2, j3, j4, v (eQ rs), v (eP th), some (.own (.lst (eN cuts))), j8, v (eG ts), v (eRow th.2), j11, v (.int a), v (eS (some a, some b)), v (.int a), j15, j16, j17, j18, j19] = .nx [d0, some (.own (.lst u1)), j2, v (.int (k : Nat)), j4, v (eQ rs), v (eP th), v (.lst (eN cuts)), j8, v (eG ts), v (eRow th.2), j11, v (.int a), v (eS (some a, some b)), v (.int a), j15, j16, j17, j18, j19] := by
      simp [-free?, ev_free, h3, a3]
    refine ⟨u3, v (.int (k : Nat)), v (.lst (eN cuts)), v (.int t.h), v (.int (t.l + q)), v (.lst [.tup [eG Ta, eS (some a, some b)], .tup [eG Tb, eS (some a, some b)]]), v (eW t.w), v (.int t.l), e3.up (by omega), rfl, rfl, rfl, rfl, rfl, rfl, rfl, ?_⟩
    refine nxS s1 (nxT (sl1 := [d0, some (.own (.lst u)), j2, j3, j4, v (eQ rs), v (eP th), some (.own (.lst (eN cuts))), j8, v (eG ts), v (eRow th.2), j11, v (.int a), v (eS (some a, some b)), v (.int a), j15, j16, j17, j18, j19]) (by simp [hlay, hem]) (nxS s2 ?_))
    refine nxS (sl1 := [d0, some (.own (.lst u1)), j2, v (.int (k : Nat)), j4, v (eQ rs), v (eP th), v (.lst (eN cuts)), j8, v (eG ts), v (eRow th.2), v (.int t.h), v (.int a), v (eS (some a, some b)), v (.int a), j15, j16, v (eW t.w), v (.int t.l), j19]) (by simp [-free?, ev_free, h17, h18, h11, ix9, -O.ix]) ?_
    refine nxS (sl1 := [d0, some (.own (.lst u2)), j2, v (.int (k : Nat)), j4, v (eQ rs), v (eP th), v (.lst (eN cuts)), j8, v (eG ts), v (eRow th.2), v (.int t.h), v (.int a), v (eS (some a, some b)), v (.int a), v (.int (t.l + q)), j16, v (eW t.w), v (.int t.l), j19]) (by simp [-free?, ev_free, h15, b4]) ?_
    refine nxS (sl1 := [d0, some (.own (.lst u2)), j2, v (.int (k : Nat)), j4, v (eQ rs), v (eP th), v (.lst (eN cuts)), j8, v (eG ts), v (eRow th.2), v (.int t.h), v (.int a), v (eS (some a, some b)), v (.int a), v (.int (t.l + q)), some (.own (.lst [.tup [eG Ta, eS (some a, some b)], .tup [eG Tb, eS (some a, some b)]])), v (eW t.w), v (.int t.l), j19]) (by simp [-free?, ev_free, h16, c1, c2, g1a, g1b, g2a, g2b, ad0, ad1, -O.add, -O.slice]) ?_
    exact nxF (sl1 := [d0, some (.own (.lst u3)), j2, v (.int (k : Nat)), j4, v (eQ rs), v (eP th), v (.lst (eN cuts)), j8, v (eG ts), v (eRow th.2), v (.int t.h), v (.int a), v (eS (some a, some b)), v (.int a), v (.int (t.l + q)), v (.lst [.tup [eG Ta, eS (some a, some b)], .tup [eG Tb, eS (some a, some b)]]), v (eW t.w), v (.int t.l), j19]) (by simp [hv]) rfl
theorem cL (d0 : Option SV) {n : Nat} {u : List D} (hu : Urn n u) (hn : n < 800000) {ts : List Tri} {rs : List Rd} {a b : Int} {th : Int × List Ev} (hts : SmT ts) (hle : a ≤ b) (hba : b ≤ a + 100) (hok : okRs ts.length rs) (hlr : rs.length < 40) (hth : th.2.length = ts.length) {j2 j3 j4 j7 j8 j11 j15 j16 j17 j18 j19 : Option SV} (h15 : frB j15 = true) : ∃ (u' : List D) (k15 : Option SV), Urn (n + 3) u' ∧ frB k15 = true ∧ (C.ifS (C.tv (C.bin O.lt (C.bin O.ix (C.var 13) (C.const (.int (0)))) (C.bin O.ix (C.var 13) (C.const (.int (1)))))) (C.seq (C.set 15 (C.bin O.add (C.bin O.ix (C.var 13) (C.const (.int (0)))) (C.ucallM [true, false] d__law_take (C.acons (C.var 1) (C.acons (C.bin O.sub (C.bin O.ix (C.var 13) (C.const (.int (1)))) (C.bin O.ix (C.var 13) (C.const (.int (0))))) C.anil)))))
    (C.ifS (C.tnot (C.tru (C.ucallM [true, false, false, false, false] d__law_halves_right (C.acons (C.var 1) (C.acons (C.tup (C.acons (C.var 9) (C.acons (C.var 13) C.anil))) (C.acons (C.lst (C.acons (C.tup (C.acons (C.var 9) (C.acons (C.tup (C.acons (C.bin O.ix (C.var 13) (C.const (.int (0)))) (C.acons (C.var 15) C.anil))) C.anil))) (C.acons (C.tup (C.acons (C.var 9) (C.acons (C.tup (C.acons (C.bin O.add (C.var 15) (C.const (.int (1)))) (C.acons (C.bin O.ix (C.var 13) (C.const (.int (1)))) C.anil))) C.anil))) C.anil))) (C.acons (C.var 5) (C.acons (C.var 6) C.anil)))))))) (C.ret (C.const (.bl false))) C.pass)) C.pass) [d0, some (.own (.lst u)), j2, j3, j4, v (eQ rs), v (eP th), j7, j8, v (eG ts), v (eRow th.2), j11, v (.int a), v (eS (some a, some b)), v (.int a), j15, j16, j17, j18, j19] = .nx [d0, some (.own (.lst u')), j2, j3, j4, v (eQ rs), v (eP th), j7, j8, v (eG ts), v (eRow th.2), j11, v (.int a), v (eS (some a, some b)), v (.int a), k15, j16, j17, j18, j19] := by
  have hs : okS (some a, some b) = true := by simpa [okS] using hle
  have h4 := hts.len
  have i0 : O.ix (eS (some a, some b)) (.int 0) = some (.v (.int a)) := rfl
  have i1 : O.ix (eS (some a, some b)) (.int 1) = some (.v (.int b)) := rfl
  by_cases hab : a < b
  · by_cases hbig : b - a < 1000000
    · obtain ⟨q, u1, b1, b2, b3, b4⟩ := t_take hu (by omega) (low := b - a) (by omega) (by omega)
      obtain ⟨u2, e3, hv⟩ := halves_right (th := th) b3 (by omega) (parts_starts (ts := ts) (s := (some a, some b)) (s1 := (some a, some (a + q))) (s2 := (some (a + q + 1), some b)) (fun x => by simp only [inS_ss]; omega)) hts.okTs hts.okTs hts.okTs hs (by simp [okS]; omega) (by simp [okS]; omega) hok (by omega) (by omega) (by omega)
      have hv : d__law_halves_right [.bref (.lst u1), .val (.tup [eG ts, eS (some a, some b)]), .val (.lst [.tup [eG ts, .tup [.int a, .int (a + q)]], .tup [eG ts, .tup [.int (a + q + 1), .int b]]]), .val (eQ rs), .val (eP th)] = .ok (.v (.bl true)) [some (.bref (.lst u2)), v (.tup [eG ts, eS (some a, some b)]), v (.lst [.tup [eG ts, .tup [.int a, .int (a + q)]], .tup [eG ts, .tup [.int (a + q + 1), .int b]]]), v (eQ rs), v (eP th)] := hv
      refine ⟨u2, v (.int (a + q)), e3.up (by omega), rfl, ?_⟩
      refine nxT (sl1 := [d0, some (.own (.lst u)), j2, j3, j4, v (eQ rs), v (eP th), j7, j8, v (eG ts), v (eRow th.2), j11, v (.int a), v (eS (some a, some b)), v (.int a), j15, j16, j17, j18, j19]) (by simp [i0, i1, hab, -O.ix]) (nxS (sl1 := [d0, some (.own (.lst u1)), j2, j3, j4, v (eQ rs), v (eP th), j7, j8, v (eG ts), v (eRow th.2), j11, v (.int a), v (eS (some a, some b)), v (.int a), v (.int (a + q)), j16, j17, j18, j19]) (by simp [-free?, ev_free, h15, i0, i1, b4, -O.ix]) ?_)
      exact nxF (sl1 := [d0, some (.own (.lst u2)), j2, j3, j4, v (eQ rs), v (eP th), j7, j8, v (eG ts), v (eRow th.2), j11, v (.int a), v (eS (some a, some b)), v (.int a), v (.int (a + q)), j16, j17, j18, j19]) (by simp [i0, i1, hv, -O.ix]) rfl
    · omega
  · exact ⟨u, j15, hu.up (by omega), h15, nxF (sl1 := [d0, some (.own (.lst u)), j2, j3, j4, v (eQ rs), v (eP th), j7, j8, v (eG ts), v (eRow th.2), j11, v (.int a), v (eS (some a, some b)), v (.int a), j15, j16, j17, j18, j19]) (by simp [i0, i1, hab, -O.ix]) rfl⟩
theorem cM (d0 : Option SV) {n : Nat} {u : List D} (hu : Urn n u) (hn : n < 800000) {ts : List Tri} {rs : List Rd} {a b : Int} {th : Int × List Ev} (hts : SmT ts) (hle : a ≤ b) (hba : b ≤ a + 100) (hok : okRs ts.length rs) (hlr : rs.length < 40) (hth : th.2.length = ts.length) {j2 j3 j4 j7 j8 j11 j15 j16 j17 j18 j19 : Option SV} (h8 : frB j8 = true) : ∃ (u' : List D) (k8 : Option SV), Urn (n + 4) u' ∧ frB k8 = true ∧ (C.seq (C.set 8 (C.lst (C.acons (C.tup (C.acons (C.var 9) (C.acons (C.tup (C.acons (C.const (.non)) (C.acons (C.var 12) C.anil))) C.anil))) (C.acons (C.tup (C.acons (C.var 9) (C.acons (C.tup (C.acons (C.bin O.add (C.var 12) (C.const (.int (1)))) (C.acons (C.const (.non)) C.anil))) C.anil))) C.anil)))) (C.ifS (C.tor (C.tnot (C.tru (C.ucallM [true, false, false, false, false] d__law_halves_right (C.acons (C.var 1) (C.acons (C.tup (C.acons (C.var 9) (C.acons (C.tup (C.acons (C.const (.non)) (C.acons (C.const (.non)) C.anil))) C.anil))) (C.acons (C.var 8) (C.acons (C.var 5) (C.acons (C.var 6) C.anil)))))))) (C.tnot (C.tru (C.ucallM [true, false, false, false, false] d__law_more_right (C.acons (C.var 1) (C.acons (C.var 9) (C.acons (C.var 13) (C.acons (C.var 5) (C.acons (C.var 6) C.anil))))))))) (C.ret (C.const (.bl false))) C.pass)) [d0, some (.own (.lst u)), j2, j3, j4, v (eQ rs), v (eP th), j7, j8, v (eG ts), v (eRow th.2), j11, v (.int a), v (eS (some a, some b)), v (.int a), j15, j16, j17, j18, j19] = .nx [d0, some (.own (.lst u')), j2, j3, j4, v (eQ rs), v (eP th), j7, k8, v (eG ts), v (eRow th.2), j11, v (.int a), v (eS (some a, some b)), v (.int a), j15, j16, j17, j18, j19] := by
  have hs : okS (some a, some b) = true := by simpa [okS] using hle
  have h4 := hts.len
  obtain ⟨u1, e1, hv⟩ := halves_right (th := th) hu (by omega) (parts_starts (ts := ts) (s := (none, none)) (s1 := (none, some a)) (s2 := (some (a + 1), none)) (fun x => by simp; omega)) hts.okTs hts.okTs hts.okTs rfl rfl rfl hok (by omega) (by omega) (by omega)
  have hv : d__law_halves_right [.bref (.lst u), .val (.tup [eG ts, .tup [.non, .non]]), .val (.lst [.tup [eG ts, .tup [.non, .int a]], .tup [eG ts, .tup [.int (a + 1), .non]]]), .val (eQ rs), .val (eP th)] = .ok (.v (.bl true)) [some (.bref (.lst u1)), v (.tup [eG ts, .tup [.non, .non]]), v (.lst [.tup [eG ts, .tup [.non, .int a]], .tup [eG ts, .tup [.int (a + 1), .non]]]), v (eQ rs), v (eP th)] := hv
  obtain ⟨u2, e2, hm⟩ := more_right e1 (by omega) hts.okTs hle hok (by omega) (by omega) hth
  refine ⟨u2, v (.lst [.tup [eG ts, .tup [.non, .int a]], .tup [eG ts, .tup [.int (a + 1), .non]]]), e2.up (by omega), rfl, ?_⟩
  refine nxS (sl1 := [d0, some (.own (.lst u)), j2, j3, j4, v (eQ rs), v (eP th), j7, some (.own (.lst [.tup [eG ts, .tup [.non, .int a]], .tup [eG ts, .tup [.int (a + 1), .non]]])), v (eG ts), v (eRow th.2), j11, v (.int a), v (eS (some a, some b)), v (.int a), j15, j16, j17, j18, j19]) (by simp [-free?, ev_free, h8]) ?_
  exact nxF (sl1 := [d0, some (.own (.lst u2)), j2, j3, j4, v (eQ rs), v (eP th), j7, v (.lst [.tup [eG ts, .tup [.non, .int a]], .tup [eG ts, .tup [.int (a + 1), .non]]]), v (eG ts), v (eRow th.2), j11, v (.int a), v (eS (some a, some b)), v (.int a), j15, j16, j17, j18, j19]) (by simp [hv, hm]) rfl
end RF.L
set_option maxRecDepth 100000
set_option maxHeartbeats 4000000
namespace RF.L
open PySem RF RF.C
theorem nxS2 {a b c : SDen} {sl sl1 : Sl} {r : SRes} (h : C.seq a b sl = .nx sl1) (h2 : c sl1 = r) : C.seq a (C.seq b c) sl = r := by
  rw [ev_seq] at h
  rw [ev_seq]
  cases q : a sl with
  | nx s => rw [q] at h; simp only at h ⊢; rw [ev_seq, h]; exact h2
  | rt x s => rw [q] at h; cases h
  | bk s => rw [q] at h; cases h
  | ct s => rw [q] at h; cases h
  | exc x s => rw [q] at h; cases h
  | fail => rw [q] at h; cases h
theorem law_body (d0 : Option SV) {n : Nat} {u : List D} (hu : Urn n u) (hn : n < 50000) {j2 j3 j4 j5 j6 j7 j8 j9 j10 j11 j12 j13 j14 j15 j16 j17 j18 j19 : Option SV} (h2 : frB j2 = true) (h3 : frB j3 = true) (h4j : frB j4 = true) (h5 : frB j5 = true) (h6 : frB j6 = true) (h7 : frB j7 = true) (h8 : frB j8 = true) (h9 : frB j9 = true) (h10 : frB j10 = true) (h11 : frB j11 = true) (h12 : frB j12 = true) (h13 : frB j13 = true) (h14 : frB j14 = true) (h15 : frB j15 = true) (h16 : frB j16 = true) (h17 : frB j17 = true) (h18 : frB j18 = true) (h19 : frB j19 = true) : ∃ (u' : List D) (k2 k3 k4 k5 k6 k7 k8 k9 k10 k11 k12 k13 k14 k15 k16 k17 k18 k19 : Option SV), Urn (n + 1000) u' ∧ frB k2 = true ∧ frB k3 = true ∧ frB k4 = true ∧ frB k5 = true ∧ frB k6 = true ∧ frB k7 = true ∧ frB k8 = true ∧ frB k9 = true ∧ frB k10 = true ∧ frB k11 = true ∧ frB k12 = true ∧ frB k13 = true ∧ frB k14 = true ∧ frB k15 = true ∧ frB k16 = true ∧ frB k17 = true ∧ frB k18 = true ∧ frB k19 = true ∧ (C.seq (C.par [9, 10] (C.racons (C.lst C.anil) (C.racons (C.lst C.anil) C.anil))) (C.seq (C.forS (C.gname 3) (C.iterA W.range1 (C.acons (C.ucallM [true, false] d__law_take (C.acons (C.var 1) (C.acons (C.const (.int (5))) C.anil))) C.anil)) (C.seq (C.par [17, 18] (C.racons (C.ucallM [true, false] d__law_of (C.acons (C.var 1) (C.acons (C.lst (C.acons (C.const (.str "add")) (C.acons (C.const (.str "add")) (C.acons (C.const (.str "floor")) (C.acons (C.const (.str "cap")) C.anil))))) C.anil))) (C.racons (C.ucallM [true, false] d__law_number (C.acons (C.var 1) (C.acons (C.const (.int (6))) C.anil))) C.anil)))
    (C.seq (C.set 11 (C.bin O.add (C.var 18) (C.ucallM [true, false] d__law_take (C.acons (C.var 1) (C.acons (C.const (.int (3))) C.anil)))))
    (C.seq (C.drop (C.mcall M.append 9 (C.acons (C.tup (C.acons (C.var 17) (C.acons (C.var 18) (C.acons (C.var 11) C.anil)))) C.anil)))
    (C.drop (C.mcall M.append 10 (C.acons (C.tup (C.acons (C.var 17) (C.acons (C.bin O.add (C.var 18) (C.ucallM [true, false] d__law_take (C.acons (C.var 1) (C.acons (C.bin O.add (C.bin O.sub (C.var 11) (C.var 18)) (C.const (.int (1)))) C.anil)))) C.anil))) C.anil))))))) (C.seq (C.par [9, 10, 12] (C.racons (C.call O.tuple (C.acons (C.var 9) C.anil)) (C.racons (C.call O.tuple (C.acons (C.var 10) C.anil)) (C.racons (C.ucallM [true, false] d__law_number (C.acons (C.var 1) (C.acons (C.const (.int (9))) C.anil))) C.anil)))) (C.seq (C.par [13, 14] (C.racons (C.tup (C.acons (C.var 12) (C.acons (C.bin O.add (C.var 12) (C.ucallM [true, false] d__law_take (C.acons (C.var 1) (C.acons (C.const (.int (9))) C.anil)))) C.anil))) (C.racons (C.var 12) C.anil))) (C.seq (C.set 4 (C.ucallM [] d__law_levels (C.acons (C.var 10) (C.acons (C.var 14) C.anil)))) (C.seq (C.set 5 (C.call O.tuple (C.acons (C.lc (C.iter (C.call O.sorted (C.acons (C.ucallM [true, false, false] d__law_pick (C.acons (C.var 1) (C.acons (C.listI (C.iterA W.range1 (C.acons (C.call O.len (C.acons (C.var 4) C.anil)) C.anil))) (C.acons (C.ucallM [true, false] d__law_take (C.acons (C.var 1) (C.acons (C.const (.int (3))) C.anil))) C.anil)))) C.anil))) (C.gname 3) C.tyes (C.tup (C.acons (C.var 3) (C.acons (C.bin O.add (C.bin O.ix (C.var 4) (C.var 3)) (C.ite (C.tv (C.bin O.gt (C.ucallM [true, false] d__law_take (C.acons (C.var 1) (C.acons (C.const (.int (6))) C.anil))) (C.const (.int (0))))) (C.const (.int (0))) (C.const (.int (1))))) C.anil))) [3]) C.anil))) (C.seq (C.set 6 (C.tup (C.acons (C.var 14) (C.acons (C.var 10) C.anil)))) (C.seq (C.ifS (C.tnot (C.tru (C.ucallM [] (d__law_same 8) (C.acons (C.lst (C.acons (C.ucallM [] d_is_guess (C.acons (C.var 9) C.anil)) (C.acons (C.ucallM [] d_goes_with (C.acons (C.var 9) (C.acons (C.var 13) (C.acons (C.var 5) (C.acons (C.var 6) C.anil))))) C.anil))) (C.acons (C.lst (C.acons (C.const (.bl true)) (C.acons (C.bin O.eq (C.lc (C.iter (C.var 5)) (C.gtup 2 (C.gcons (C.gname 3) (C.gcons (C.gname 19) C.gnil))) (C.tv (C.bin O.ne (C.bin O.ix (C.var 4) (C.var 3)) (C.var 19))) (C.const (.int (1))) [3, 19]) (C.lst C.anil)) C.anil))) C.anil))))) (C.ret (C.const (.bl false))) C.pass) (C.seq (C.ifS (C.tnot (C.tru (C.ucallM [true, false, false, false, false] d__law_all_told (C.acons (C.var 1) (C.acons (C.var 9) (C.acons (C.var 13) (C.acons (C.var 5) (C.acons (C.lst (C.acons (C.var 6) (C.acons (C.tup (C.acons (C.bin O.add (C.var 14) (C.const (.int (1)))) (C.acons (C.var 10) C.anil))) C.anil))) C.anil)))))))) (C.ret (C.const (.bl false))) C.pass) (C.seq (C.set 7 (C.lc (C.iterA W.enum (C.acons (C.var 9) C.anil)) (C.gtup 2 (C.gcons (C.gname 3) (C.gcons (C.gtup 3 (C.gcons (C.gname 17) (C.gcons (C.gname 18) (C.gcons (C.gname 11) C.gnil)))) C.gnil))) (C.tv (C.bin O.lt (C.var 18) (C.var 11))) (C.var 3) [3, 17, 18, 11])) (C.seq (C.ifS (C.tv (C.bin O.ne (C.var 7) (C.lst C.anil))) (C.seq (C.set 3 (C.ucallM [true, false] d__law_of (C.acons (C.var 1) (C.acons (C.var 7) C.anil))))
    (C.seq (C.asg (C.gtup 3 (C.gcons (C.gname 17) (C.gcons (C.gname 18) (C.gcons (C.gname 11) C.gnil)))) (C.bin O.ix (C.var 9) (C.var 3)))
    (C.seq (C.set 15 (C.bin O.add (C.var 18) (C.ucallM [true, false] d__law_take (C.acons (C.var 1) (C.acons (C.bin O.sub (C.var 11) (C.var 18)) C.anil)))))
    (C.seq (C.set 16 (C.lst (C.acons (C.tup (C.acons (C.bin O.add (C.bin O.add (C.slice (C.var 9) C.pnone (C.psome (C.var 3))) (C.tup (C.acons (C.tup (C.acons (C.var 17) (C.acons (C.var 18) (C.acons (C.var 15) C.anil)))) C.anil))) (C.slice (C.var 9) (C.psome (C.bin O.add (C.var 3) (C.const (.int (1))))) C.pnone)) (C.acons (C.var 13) C.anil))) (C.acons (C.tup (C.acons (C.bin O.add (C.bin O.add (C.slice (C.var 9) C.pnone (C.psome (C.var 3))) (C.tup (C.acons (C.tup (C.acons (C.var 17) (C.acons (C.bin O.add (C.var 15) (C.const (.int (1)))) (C.acons (C.var 11) C.anil)))) C.anil))) (C.slice (C.var 9) (C.psome (C.bin O.add (C.var 3) (C.const (.int (1))))) C.pnone)) (C.acons (C.var 13) C.anil))) C.anil))))
    (C.ifS (C.tnot (C.tru (C.ucallM [true, false, false, false, false] d__law_halves_right (C.acons (C.var 1) (C.acons (C.tup (C.acons (C.var 9) (C.acons (C.var 13) C.anil))) (C.acons (C.var 16) (C.acons (C.var 5) (C.acons (C.var 6) C.anil)))))))) (C.ret (C.const (.bl false))) C.pass))))) C.pass) (C.seq (C.ifS (C.tv (C.bin O.lt (C.bin O.ix (C.var 13) (C.const (.int (0)))) (C.bin O.ix (C.var 13) (C.const (.int (1)))))) (C.seq (C.set 15 (C.bin O.add (C.bin O.ix (C.var 13) (C.const (.int (0)))) (C.ucallM [true, false] d__law_take (C.acons (C.var 1) (C.acons (C.bin O.sub (C.bin O.ix (C.var 13) (C.const (.int (1)))) (C.bin O.ix (C.var 13) (C.const (.int (0))))) C.anil)))))
    (C.ifS (C.tnot (C.tru (C.ucallM [true, false, false, false, false] d__law_halves_right (C.acons (C.var 1) (C.acons (C.tup (C.acons (C.var 9) (C.acons (C.var 13) C.anil))) (C.acons (C.lst (C.acons (C.tup (C.acons (C.var 9) (C.acons (C.tup (C.acons (C.bin O.ix (C.var 13) (C.const (.int (0)))) (C.acons (C.var 15) C.anil))) C.anil))) (C.acons (C.tup (C.acons (C.var 9) (C.acons (C.tup (C.acons (C.bin O.add (C.var 15) (C.const (.int (1)))) (C.acons (C.bin O.ix (C.var 13) (C.const (.int (1)))) C.anil))) C.anil))) C.anil))) (C.acons (C.var 5) (C.acons (C.var 6) C.anil)))))))) (C.ret (C.const (.bl false))) C.pass)) C.pass) (C.seq (C.set 8 (C.lst (C.acons (C.tup (C.acons (C.var 9) (C.acons (C.tup (C.acons (C.const (.non)) (C.acons (C.var 12) C.anil))) C.anil))) (C.acons (C.tup (C.acons (C.var 9) (C.acons (C.tup (C.acons (C.bin O.add (C.var 12) (C.const (.int (1)))) (C.acons (C.const (.non)) C.anil))) C.anil))) C.anil)))) (C.ifS (C.tor (C.tnot (C.tru (C.ucallM [true, false, false, false, false] d__law_halves_right (C.acons (C.var 1) (C.acons (C.tup (C.acons (C.var 9) (C.acons (C.tup (C.acons (C.const (.non)) (C.acons (C.const (.non)) C.anil))) C.anil))) (C.acons (C.var 8) (C.acons (C.var 5) (C.acons (C.var 6) C.anil)))))))) (C.tnot (C.tru (C.ucallM [true, false, false, false, false] d__law_more_right (C.acons (C.var 1) (C.acons (C.var 9) (C.acons (C.var 13) (C.acons (C.var 5) (C.acons (C.var 6) C.anil))))))))) (C.ret (C.const (.bl false))) C.pass)))))))))))))) [d0, some (.own (.lst u)), j2, j3, j4, j5, j6, j7, j8, j9, j10, j11, j12, j13, j14, j15, j16, j17, j18, j19] = .nx [d0, some (.own (.lst u')), k2, k3, k4, k5, k6, k7, k8, k9, k10, k11, k12, k13, k14, k15, k16, k17, k18, k19] := by
  obtain ⟨q, u1, a1, a2, a3, a4⟩ := t_take hu (by omega) (low := 5) (by omega) (by omega)
  have hlen : (rangeD 0 q.toNat).length = q.toNat := by simp [rangeD]
  obtain ⟨u2, ts, es, k3, k11, k17, k18, g1, g2, g3, g4, g5, g6, g7, g8, g9⟩ := guess_loop d0 (rangeD 0 q.toNat) (n + 1) u1 a3 (by rw [hlen]; omega) (rangeD_ints _) [] [] (by simp) rfl (by rw [hlen]; simp; omega) j2 j3 j4 j5 j6 j7 j8 j11 j12 j13 j14 j15 j16 j17 j18 j19 h3 h11 h17 h18
  rw [hlen] at g1 g4
  have hts : SmT ts := ⟨by rw [g4]; simp; omega, g2⟩
  have h4 := hts.len
  have hel := fg_len g3
  obtain ⟨a, u3, b1, b2, b3, b4⟩ := t_number g1 (by omega) (far := 9) (by omega) (by omega)
  obtain ⟨w, u4, c1, c2, c3, c4⟩ := t_take b3 (by omega) (low := 9) (by omega) (by omega)
  obtain ⟨m, u5, e1, e2, e3, e4⟩ := t_take c3 (by omega) (low := 3) (by omega) (by omega)
  have hll := levT_len a es
  obtain ⟨u6, P, f1, f2, f3, f4⟩ := t_pick e3 (by omega) ((List.range (levT a es).length).map fun (i : Nat) => (i : Int)) (by rw [List.length_map, List.length_range]; omega) e1 (by omega)
  have hPs : ∀ i ∈ sortI P, 0 ≤ i ∧ i < ((levT a es).length : Int) := fun i hi => by
    have := f2 i (sortI_mem.mp hi)
    obtain ⟨k, hk, rfl⟩ := List.mem_map.mp this
    have := List.mem_range.mp hk
    omega
  have hsl : (sortI P).length = P.length := by
    have ins : ∀ (j : Int) (l : List Int), (insI j l).length = l.length + 1 := by
      intro j l
      induction l with
      | nil => rfl
      | cons k l ih => unfold insI; split <;> simp [ih]
    clear f2 f3 f4 hPs
    induction P with
    | nil => rfl
    | cons i is ih => rw [sortI, ins, ih]; rfl
  obtain ⟨u7, rs, y3, i1, i2, i3, i4⟩ := read_lc d0 (levT a es) (j2) (j5) (j6) (j7) (j8) (v (eG ts)) (v (eRow es)) (k11) (v (.int a)) (v (eS (some a, some (a + w)))) (v (.int a)) (j15) (j16) (k17) (k18) (j19) (sortI P) _ u6 f1 (by omega) hPs none
  have hok : okRs ts.length rs := fun r hr => by have := i3 r hr; omega
  have hrl : rs.length < 40 := by omega
  have hle : a ≤ a + w := by omega
  obtain ⟨u8, l1, l2⟩ := all_told i1 (by omega) hts hok (by omega) (a := a) (b := a + w) (by omega) (by omega) (by omega) hle (s1 := (a, es)) (s2 := (a + 1, es)) (by simp only; omega) (by simp only; omega)
  have l2 : d__law_all_told [.bref (.lst u7), .val (eG ts), .val (eS (some a, some (a + w))), .val (eQ rs), .val (.lst [eP (a, es), .tup [.int (a + 1), eRow es]])] = .ok (.v (.bl true)) [some (.bref (.lst u8)), v (eG ts), v (eS (some a, some (a + w))), v (eQ rs), v (.lst [eP (a, es), .tup [.int (a + 1), eRow es]])] := l2
  have hokr : C.okR q = true := okR_ok (by omega)
  have sA : (C.par [9, 10] (C.racons (C.lst C.anil) (C.racons (C.lst C.anil) C.anil))) [d0, some (.own (.lst u)), j2, j3, j4, j5, j6, j7, j8, j9, j10, j11, j12, j13, j14, j15, j16, j17, j18, j19] = .nx [d0, some (.own (.lst u)), j2, j3, j4, j5, j6, j7, j8, some (.own (.lst [])), some (.own (.lst [])), j11, j12, j13, j14, j15, j16, j17, j18, j19] := by simp [-free?, ev_free, h9, h10]
  have sB : (C.forS (C.gname 3) (C.iterA W.range1 (C.acons (C.ucallM [true, false] d__law_take (C.acons (C.var 1) (C.acons (C.const (.int (5))) C.anil))) C.anil)) (C.seq (C.par [17, 18] (C.racons (C.ucallM [true, false] d__law_of (C.acons (C.var 1) (C.acons (C.lst (C.acons (C.const (.str "add")) (C.acons (C.const (.str "add")) (C.acons (C.const (.str "floor")) (C.acons (C.const (.str "cap")) C.anil))))) C.anil))) (C.racons (C.ucallM [true, false] d__law_number (C.acons (C.var 1) (C.acons (C.const (.int (6))) C.anil))) C.anil)))
    (C.seq (C.set 11 (C.bin O.add (C.var 18) (C.ucallM [true, false] d__law_take (C.acons (C.var 1) (C.acons (C.const (.int (3))) C.anil)))))
    (C.seq (C.drop (C.mcall M.append 9 (C.acons (C.tup (C.acons (C.var 17) (C.acons (C.var 18) (C.acons (C.var 11) C.anil)))) C.anil)))
    (C.drop (C.mcall M.append 10 (C.acons (C.tup (C.acons (C.var 17) (C.acons (C.bin O.add (C.var 18) (C.ucallM [true, false] d__law_take (C.acons (C.var 1) (C.acons (C.bin O.add (C.bin O.sub (C.var 11) (C.var 18)) (C.const (.int (1)))) C.anil)))) C.anil))) C.anil))))))) [d0, some (.own (.lst u)), j2, j3, j4, j5, j6, j7, j8, some (.own (.lst [])), some (.own (.lst [])), j11, j12, j13, j14, j15, j16, j17, j18, j19] = .nx [d0, some (.own (.lst u2)), j2, k3, j4, j5, j6, j7, j8, some (.own (.lst (ts.map eT))), some (.own (.lst (es.map eE))), k11, j12, j13, j14, j15, j16, k17, k18, j19] := forS_of (sl1 := [d0, some (.own (.lst u1)), j2, j3, j4, j5, j6, j7, j8, some (.own (.lst [])), some (.own (.lst [])), j11, j12, j13, j14, j15, j16, j17, j18, j19]) (by simp [a4, hokr, -C.okR_eq]) g9
  have tg : O.tuple [.lst (ts.map eT)] = some (.v (eG ts)) := rfl
  have te : O.tuple [.lst (es.map eE)] = some (.v (eRow es)) := rfl
  have sC : (C.par [9, 10, 12] (C.racons (C.call O.tuple (C.acons (C.var 9) C.anil)) (C.racons (C.call O.tuple (C.acons (C.var 10) C.anil)) (C.racons (C.ucallM [true, false] d__law_number (C.acons (C.var 1) (C.acons (C.const (.int (9))) C.anil))) C.anil)))) [d0, some (.own (.lst u2)), j2, k3, j4, j5, j6, j7, j8, some (.own (.lst (ts.map eT))), some (.own (.lst (es.map eE))), k11, j12, j13, j14, j15, j16, k17, k18, j19] = .nx [d0, some (.own (.lst u3)), j2, k3, j4, j5, j6, j7, j8, v (eG ts), v (eRow es), k11, v (.int a), j13, j14, j15, j16, k17, k18, j19] := by simp [-free?, ev_free, h12, tg, te, b4, -O.tuple]
  have sD : (C.par [13, 14] (C.racons (C.tup (C.acons (C.var 12) (C.acons (C.bin O.add (C.var 12) (C.ucallM [true, false] d__law_take (C.acons (C.var 1) (C.acons (C.const (.int (9))) C.anil)))) C.anil))) (C.racons (C.var 12) C.anil))) [d0, some (.own (.lst u3)), j2, k3, j4, j5, j6, j7, j8, v (eG ts), v (eRow es), k11, v (.int a), j13, j14, j15, j16, k17, k18, j19] = .nx [d0, some (.own (.lst u4)), j2, k3, j4, j5, j6, j7, j8, v (eG ts), v (eRow es), k11, v (.int a), v (eS (some a, some (a + w))), v (.int a), j15, j16, k17, k18, j19] := by simp [-free?, ev_free, h13, h14, c4, eS]
  have hlv := t_levelsB es a (by omega)
  have sE : (C.set 4 (C.ucallM [] d__law_levels (C.acons (C.var 10) (C.acons (C.var 14) C.anil)))) [d0, some (.own (.lst u4)), j2, k3, j4, j5, j6, j7, j8, v (eG ts), v (eRow es), k11, v (.int a), v (eS (some a, some (a + w))), v (.int a), j15, j16, k17, k18, j19] = .nx [d0, some (.own (.lst u4)), j2, k3, some (.own (.lst ((levT a es).map D.int))), j5, j6, j7, j8, v (eG ts), v (eRow es), k11, v (.int a), v (eS (some a, some (a + w))), v (.int a), j15, j16, k17, k18, j19] := by simp [-free?, ev_free, h4j, hlv]
  have hokl : C.okR ((levT a es).length : Nat) = true := okR_ok (by omega)
  have hL : rangeD 0 (levT a es).length = ((List.range (levT a es).length).map fun (i : Nat) => (i : Int)).map D.int := by
    unfold rangeD
    rw [List.map_map]
    apply List.map_congr_left
    intro i _
    simp
  have hLl : (((List.range (levT a es).length).map fun (i : Nat) => (i : Int)).map D.int).length ≤ 16777216 := by
    rw [List.length_map, List.length_map, List.length_range]; omega
  generalize ((List.range (levT a es).length).map fun (i : Nat) => (i : Int)).map D.int = L at hL hLl f4
  have hii := ints_map P
  have hit5 : (C.iter (C.call O.sorted (C.acons (C.ucallM [true, false, false] d__law_pick (C.acons (C.var 1) (C.acons (C.listI (C.iterA W.range1 (C.acons (C.call O.len (C.acons (C.var 4) C.anil)) C.anil))) (C.acons (C.ucallM [true, false] d__law_take (C.acons (C.var 1) (C.acons (C.const (.int (3))) C.anil))) C.anil)))) C.anil))) [d0, some (.own (.lst u4)), j2, k3, some (.own (.lst ((levT a es).map D.int))), j5, j6, j7, j8, v (eG ts), v (eRow es), k11, v (.int a), v (eS (some a, some (a + w))), v (.int a), j15, j16, k17, k18, j19] = .ok ((sortI P).map D.int) [d0, some (.own (.lst u6)), j2, k3, some (.own (.lst ((levT a es).map D.int))), j5, j6, j7, j8, v (eG ts), v (eRow es), k11, v (.int a), v (eS (some a, some (a + w))), v (.int a), j15, j16, k17, k18, j19] := by
    simp [e4, f4, hokl, hL, hLl, hii, -C.okR_eq]
  have lc5 : (C.lc (C.iter (C.call O.sorted (C.acons (C.ucallM [true, false, false] d__law_pick (C.acons (C.var 1) (C.acons (C.listI (C.iterA W.range1 (C.acons (C.call O.len (C.acons (C.var 4) C.anil)) C.anil))) (C.acons (C.ucallM [true, false] d__law_take (C.acons (C.var 1) (C.acons (C.const (.int (3))) C.anil))) C.anil)))) C.anil))) (C.gname 3) C.tyes (C.tup (C.acons (C.var 3) (C.acons (C.bin O.add (C.bin O.ix (C.var 4) (C.var 3)) (C.ite (C.tv (C.bin O.gt (C.ucallM [true, false] d__law_take (C.acons (C.var 1) (C.acons (C.const (.int (6))) C.anil))) (C.const (.int (0))))) (C.const (.int (0))) (C.const (.int (1))))) C.anil))) [3]) [d0, some (.own (.lst u4)), j2, k3, some (.own (.lst ((levT a es).map D.int))), j5, j6, j7, j8, v (eG ts), v (eRow es), k11, v (.int a), v (eS (some a, some (a + w))), v (.int a), j15, j16, k17, k18, j19] = .ok (.n (.lst (rs.map eR))) [d0, some (.own (.lst u7)), j2, k3, some (.own (.lst ((levT a es).map D.int))), j5, j6, j7, j8, v (eG ts), v (eRow es), k11, v (.int a), v (eS (some a, some (a + w))), v (.int a), j15, j16, k17, k18, j19] := by
    unfold C.lc
    rw [hit5]
    simp only
    have e : wipeS [d0, some (.own (.lst u6)), j2, k3, some (.own (.lst ((levT a es).map D.int))), j5, j6, j7, j8, v (eG ts), v (eRow es), k11, v (.int a), v (eS (some a, some (a + w))), v (.int a), j15, j16, k17, k18, j19] [3] = [d0, some (.own (.lst u6)), j2, none, some (.own (.lst ((levT a es).map D.int))), j5, j6, j7, j8, v (eG ts), v (eRow es), k11, v (.int a), v (eS (some a, some (a + w))), v (.int a), j15, j16, k17, k18, j19] := rfl
    rw [e, i4]
    simp only
    have hz : (rs.map eR).length ≤ 1000000 := by rw [List.length_map]; omega
    rw [if_pos hz]
    rfl
  have tq : O.tuple [.lst (rs.map eR)] = some (.v (eQ rs)) := rfl
  have sF : (C.set 5 (C.call O.tuple (C.acons (C.lc (C.iter (C.call O.sorted (C.acons (C.ucallM [true, false, false] d__law_pick (C.acons (C.var 1) (C.acons (C.listI (C.iterA W.range1 (C.acons (C.call O.len (C.acons (C.var 4) C.anil)) C.anil))) (C.acons (C.ucallM [true, false] d__law_take (C.acons (C.var 1) (C.acons (C.const (.int (3))) C.anil))) C.anil)))) C.anil))) (C.gname 3) C.tyes (C.tup (C.acons (C.var 3) (C.acons (C.bin O.add (C.bin O.ix (C.var 4) (C.var 3)) (C.ite (C.tv (C.bin O.gt (C.ucallM [true, false] d__law_take (C.acons (C.var 1) (C.acons (C.const (.int (6))) C.anil))) (C.const (.int (0))))) (C.const (.int (0))) (C.const (.int (1))))) C.anil))) [3]) C.anil))) [d0, some (.own (.lst u4)), j2, k3, some (.own (.lst ((levT a es).map D.int))), j5, j6, j7, j8, v (eG ts), v (eRow es), k11, v (.int a), v (eS (some a, some (a + w))), v (.int a), j15, j16, k17, k18, j19] = .nx [d0, some (.own (.lst u7)), j2, k3, some (.own (.lst ((levT a es).map D.int))), v (eQ rs), j6, j7, j8, v (eG ts), v (eRow es), k11, v (.int a), v (eS (some a, some (a + w))), v (.int a), j15, j16, k17, k18, j19] := by simp [-free?, ev_free, h5, lc5, tq, -O.tuple]
  have sG : (C.set 6 (C.tup (C.acons (C.var 14) (C.acons (C.var 10) C.anil)))) [d0, some (.own (.lst u7)), j2, k3, some (.own (.lst ((levT a es).map D.int))), v (eQ rs), j6, j7, j8, v (eG ts), v (eRow es), k11, v (.int a), v (eS (some a, some (a + w))), v (.int a), j15, j16, k17, k18, j19] = .nx [d0, some (.own (.lst u7)), j2, k3, some (.own (.lst ((levT a es).map D.int))), v (eQ rs), v (eP (a, es)), j7, j8, v (eG ts), v (eRow es), k11, v (.int a), v (eS (some a, some (a + w))), v (.int a), j15, j16, k17, k18, j19] := by simp [-free?, ev_free, h6, eP]
  have gi := t_isguess ts (by omega) hts.okTs
  have gw : d_goes_with [.val (eG ts), .val (eS (some a, some (a + w))), .val (eQ rs), .val (eP (a, es))] = R (.bl (gwB ts (some a, some (a + w)) rs a es)) [eG ts, eS (some a, some (a + w)), eQ rs, eP (a, es)] := t_gw (is2_to eT (fun _ => .inl rfl) ts) (is2_to eR (fun _ => .inl rfl) rs) (some a, some (a + w)) a es hok (by omega) (by omega) (by omega)
  have hgw : gwB ts (some a, some (a + w)) rs a es = rdB a es rs := by
    have : inB (some a, some (a + w)) a = true := (inB_iff _ _).mpr (by rw [inS_ss]; omega)
    simp [gwB, this, g3]
  rw [hgw] at gw
  have lc7 : (C.lc (C.iter (C.var 5)) (C.gtup 2 (C.gcons (C.gname 3) (C.gcons (C.gname 19) C.gnil))) (C.tv (C.bin O.ne (C.bin O.ix (C.var 4) (C.var 3)) (C.var 19))) (C.const (.int (1))) [3, 19]) [d0, some (.own (.lst u7)), j2, k3, some (.own (.lst ((levT a es).map D.int))), v (eQ rs), v (eP (a, es)), j7, j8, v (eG ts), v (eRow es), k11, v (.int a), v (eS (some a, some (a + w))), v (.int a), j15, j16, k17, k18, j19] = .ok (.n (.lst ((rs.filter fun r => !decide ((levT a es)[r.1.toNat]? = some r.2)).map fun _ => D.int 1))) [d0, some (.own (.lst u7)), j2, k3, some (.own (.lst ((levT a es).map D.int))), v (eQ rs), v (eP (a, es)), j7, j8, v (eG ts), v (eRow es), k11, v (.int a), v (eS (some a, some (a + w))), v (.int a), j15, j16, k17, k18, j19] :=
    lc_is (P := fun d (r : Rd) => d = eR r) (sl1 := [d0, some (.own (.lst u7)), j2, k3, some (.own (.lst ((levT a es).map D.int))), v (eQ rs), v (eP (a, es)), j7, j8, v (eG ts), v (eRow es), k11, v (.int a), v (eS (some a, some (a + w))), v (.int a), j15, j16, k17, k18, j19]) (as := rs) (fun r => !decide ((levT a es)[r.1.toNat]? = some r.2)) (fun _ => D.int 1) (ds := rs.map eR) (by simp [eQ]) (is2_map _ _) (by rw [List.length_map]; omega) (fun d r hd hr => by
      subst hd
      obtain ⟨y, hy, hx⟩ := lev_atD (x := a) (es := es) (hok r hr).1 (by rw [hel]; exact (hok r hr).2)
      refine ⟨[d0, some (.own (.lst u7)), j2, v (.int r.1), some (.own (.lst ((levT a es).map D.int))), v (eQ rs), v (eP (a, es)), j7, j8, v (eG ts), v (eRow es), k11, v (.int a), v (eS (some a, some (a + w))), v (.int a), j15, j16, k17, k18, v (.int r.2)], by simp [eR], ?_, rfl, fun _ => ⟨.v (.int 1), [d0, some (.own (.lst u7)), j2, v (.int r.1), some (.own (.lst ((levT a es).map D.int))), v (eQ rs), v (eP (a, es)), j7, j8, v (eG ts), v (eRow es), k11, v (.int a), v (eS (some a, some (a + w))), v (.int a), j15, j16, k17, k18, v (.int r.2)], [d0, some (.own (.lst u7)), j2, v (.int r.1), some (.own (.lst ((levT a es).map D.int))), v (eQ rs), v (eP (a, es)), j7, j8, v (eG ts), v (eRow es), k11, v (.int a), v (eS (some a, some (a + w))), v (.int a), j15, j16, k17, k18, v (.int r.2)], rfl, rfl, rfl⟩⟩
      by_cases q : y = r.2 <;> simp [hx, hy, q])
  have hlay : D.layL 8 ((rs.filter fun r => !decide ((levT a es)[r.1.toNat]? = some r.2)).map fun _ => D.int 1) = true := layL_ones _ _ (fun d hd => by
    obtain ⟨r, _, rfl⟩ := List.mem_map.mp hd
    rfl)
  have hem : D.eqvL ((rs.filter fun r => !decide ((levT a es)[r.1.toNat]? = some r.2)).map fun _ => D.int 1) [] = rdB a es rs := by
    rw [eqvL_nil, Bool.eq_iff_iff, List.isEmpty_iff, List.map_eq_nil_iff, List.filter_eq_nil_iff, rdB, List.all_eq_true]
    simp
  generalize ((rs.filter fun r => !decide ((levT a es)[r.1.toNat]? = some r.2)).map fun _ => D.int 1) = Q7 at lc7 hlay hem
  generalize rdB a es rs = B7 at gw hem
  have sz7 := t_same 7 (.lst [.bl true, .bl B7]) (by simp [sm, smL])
  have sH : (C.ifS (C.tnot (C.tru (C.ucallM [] (d__law_same 8) (C.acons (C.lst (C.acons (C.ucallM [] d_is_guess (C.acons (C.var 9) C.anil)) (C.acons (C.ucallM [] d_goes_with (C.acons (C.var 9) (C.acons (C.var 13) (C.acons (C.var 5) (C.acons (C.var 6) C.anil))))) C.anil))) (C.acons (C.lst (C.acons (C.const (.bl true)) (C.acons (C.bin O.eq (C.lc (C.iter (C.var 5)) (C.gtup 2 (C.gcons (C.gname 3) (C.gcons (C.gname 19) C.gnil))) (C.tv (C.bin O.ne (C.bin O.ix (C.var 4) (C.var 3)) (C.var 19))) (C.const (.int (1))) [3, 19]) (C.lst C.anil)) C.anil))) C.anil))))) (C.ret (C.const (.bl false))) C.pass) [d0, some (.own (.lst u7)), j2, k3, some (.own (.lst ((levT a es).map D.int))), v (eQ rs), v (eP (a, es)), j7, j8, v (eG ts), v (eRow es), k11, v (.int a), v (eS (some a, some (a + w))), v (.int a), j15, j16, k17, k18, j19] = .nx [d0, some (.own (.lst u7)), j2, k3, some (.own (.lst ((levT a es).map D.int))), v (eQ rs), v (eP (a, es)), j7, j8, v (eG ts), v (eRow es), k11, v (.int a), v (eS (some a, some (a + w))), v (.int a), j15, j16, k17, k18, j19] := nxF (sl1 := [d0, some (.own (.lst u7)), j2, k3, some (.own (.lst ((levT a es).map D.int))), v (eQ rs), v (eP (a, es)), j7, j8, v (eG ts), v (eRow es), k11, v (.int a), v (eS (some a, some (a + w))), v (.int a), j15, j16, k17, k18, j19]) (by simp [gi, gw, lc7, hlay, hem, sz7]) rfl
  have sI : (C.ifS (C.tnot (C.tru (C.ucallM [true, false, false, false, false] d__law_all_told (C.acons (C.var 1) (C.acons (C.var 9) (C.acons (C.var 13) (C.acons (C.var 5) (C.acons (C.lst (C.acons (C.var 6) (C.acons (C.tup (C.acons (C.bin O.add (C.var 14) (C.const (.int (1)))) (C.acons (C.var 10) C.anil))) C.anil))) C.anil)))))))) (C.ret (C.const (.bl false))) C.pass) [d0, some (.own (.lst u7)), j2, k3, some (.own (.lst ((levT a es).map D.int))), v (eQ rs), v (eP (a, es)), j7, j8, v (eG ts), v (eRow es), k11, v (.int a), v (eS (some a, some (a + w))), v (.int a), j15, j16, k17, k18, j19] = .nx [d0, some (.own (.lst u8)), j2, k3, some (.own (.lst ((levT a es).map D.int))), v (eQ rs), v (eP (a, es)), j7, j8, v (eG ts), v (eRow es), k11, v (.int a), v (eS (some a, some (a + w))), v (.int a), j15, j16, k17, k18, j19] := nxF (sl1 := [d0, some (.own (.lst u8)), j2, k3, some (.own (.lst ((levT a es).map D.int))), v (eQ rs), v (eP (a, es)), j7, j8, v (eG ts), v (eRow es), k11, v (.int a), v (eS (some a, some (a + w))), v (.int a), j15, j16, k17, k18, j19]) (by simp [l2]) rfl
  obtain ⟨v1, x3, x7, x11, x15, x16, x17, x18, m1, m2, m3, m4, m5, m6, m7, m8, m9⟩ := cK (th := (a, es)) d0 l1 (by omega) hts hle (by omega) hok hrl hel (j2 := j2) (j3 := k3) (j4 := some (.own (.lst ((levT a es).map D.int)))) (j7 := j7) (j8 := j8) (j11 := k11) (j15 := j15) (j16 := j16) (j17 := k17) (j18 := k18) (j19 := j19) g5 h7 g6 h15 h16 g7 g8
  obtain ⟨v2, z15, p1, p2, p3⟩ := cL (th := (a, es)) d0 m1 (by omega) hts hle (by omega) hok hrl hel (j2 := j2) (j3 := x3) (j4 := some (.own (.lst ((levT a es).map D.int)))) (j7 := x7) (j8 := j8) (j11 := x11) (j15 := x15) (j16 := x16) (j17 := x17) (j18 := x18) (j19 := j19) m5
  obtain ⟨v3, z8, r1, r2, r3⟩ := cM (th := (a, es)) d0 p1 (by omega) hts hle (by omega) hok hrl hel (j2 := j2) (j3 := x3) (j4 := some (.own (.lst ((levT a es).map D.int)))) (j7 := x7) (j8 := j8) (j11 := x11) (j15 := z15) (j16 := x16) (j17 := x17) (j18 := x18) (j19 := j19) h8
  refine ⟨v3, j2, x3, some (.own (.lst ((levT a es).map D.int))), v (eQ rs), v (eP (a, es)), x7, z8, v (eG ts), v (eRow es), x11, v (.int a), v (eS (some a, some (a + w))), v (.int a), z15, x16, x17, x18, j19, r1.up (by omega), h2, m2, rfl, rfl, rfl, m3, r2, rfl, rfl, m4, rfl, rfl, rfl, p2, m6, m7, m8, h19, ?_⟩
  exact nxS sA (nxS sB (nxS sC (nxS sD (nxS sE (nxS sF (nxS sG (nxS sH (nxS sI (nxS2 m9 (nxS p3 r3))))))))))
theorem law_true (ns : List Int) (h : ns.length ≤ 63) : ∃ fin, d_law [.val (.kls (ns.map D.int))] = .ok (.v (.bl true)) fin := by
  obtain ⟨x, hc⟩ := t_cells ns h
  obtain ⟨u, hu, hb⟩ := t_box x
  obtain ⟨u1, k2, k3, k4, k5, k6, k7, k8, k9, k10, k11, k12, k13, k14, k15, k16, k17, k18, k19, hu1, h2, h3, h4, h5, h6, h7, h8, h9, h10, h11, h12, h13, h14, h15, h16, h17, h18, h19, l1⟩ := law_body (some (.val (.kls (ns.map D.int)))) hu (by omega) (j2 := v (.int 0)) (j3 := none) (j4 := none) (j5 := none) (j6 := none) (j7 := none) (j8 := none) (j9 := none) (j10 := none) (j11 := none) (j12 := none) (j13 := none) (j14 := none) (j15 := none) (j16 := none) (j17 := none) (j18 := none) (j19 := none) rfl rfl rfl rfl rfl rfl rfl rfl rfl rfl rfl rfl rfl rfl rfl rfl rfl rfl
  obtain ⟨u2, m2, m3, m4, m5, m6, m7, m8, m9, m10, m11, m12, m13, m14, m15, m16, m17, m18, m19, hu2, q2, q3, q4, q5, q6, q7, q8, q9, q10, q11, q12, q13, q14, q15, q16, q17, q18, q19, l2⟩ := law_body (some (.val (.kls (ns.map D.int)))) hu1 (by omega) (j2 := v (.int 1)) (j3 := k3) (j4 := k4) (j5 := k5) (j6 := k6) (j7 := k7) (j8 := k8) (j9 := k9) (j10 := k10) (j11 := k11) (j12 := k12) (j13 := k13) (j14 := k14) (j15 := k15) (j16 := k16) (j17 := k17) (j18 := k18) (j19 := k19) rfl h3 h4 h5 h6 h7 h8 h9 h10 h11 h12 h13 h14 h15 h16 h17 h18 h19
  have hr2 : rangeD 0 (2 : Int).toNat = [.int 0, .int 1] := rfl
  have lp := loop_step (g := C.gname 2) (sl := [some (.val (.kls (ns.map D.int))), some (.own (.lst u)), none, none, none, none, none, none, none, none, none, none, none, none, none, none, none, none, none, none]) (d := .int 0) (ds := [.int 1]) rfl l1 (loop_step (g := C.gname 2) (d := .int 1) (ds := []) (sl1 := [some (.val (.kls (ns.map D.int))), some (.own (.lst u1)), v (.int 1), k3, k4, k5, k6, k7, k8, k9, k10, k11, k12, k13, k14, k15, k16, k17, k18, k19]) (by simp [-free?, ev_free, h2]) l2 rfl)
  have f : C.forS (C.gname 2) (C.iterA W.range1 (C.acons (C.const (.int (2))) C.anil)) (C.seq (C.par [9, 10] (C.racons (C.lst C.anil) (C.racons (C.lst C.anil) C.anil))) (C.seq (C.forS (C.gname 3) (C.iterA W.range1 (C.acons (C.ucallM [true, false] d__law_take (C.acons (C.var 1) (C.acons (C.const (.int (5))) C.anil))) C.anil)) (C.seq (C.par [17, 18] (C.racons (C.ucallM [true, false] d__law_of (C.acons (C.var 1) (C.acons (C.lst (C.acons (C.const (.str "add")) (C.acons (C.const (.str "add")) (C.acons (C.const (.str "floor")) (C.acons (C.const (.str "cap")) C.anil))))) C.anil))) (C.racons (C.ucallM [true, false] d__law_number (C.acons (C.var 1) (C.acons (C.const (.int (6))) C.anil))) C.anil)))
    (C.seq (C.set 11 (C.bin O.add (C.var 18) (C.ucallM [true, false] d__law_take (C.acons (C.var 1) (C.acons (C.const (.int (3))) C.anil)))))
    (C.seq (C.drop (C.mcall M.append 9 (C.acons (C.tup (C.acons (C.var 17) (C.acons (C.var 18) (C.acons (C.var 11) C.anil)))) C.anil)))
    (C.drop (C.mcall M.append 10 (C.acons (C.tup (C.acons (C.var 17) (C.acons (C.bin O.add (C.var 18) (C.ucallM [true, false] d__law_take (C.acons (C.var 1) (C.acons (C.bin O.add (C.bin O.sub (C.var 11) (C.var 18)) (C.const (.int (1)))) C.anil)))) C.anil))) C.anil))))))) (C.seq (C.par [9, 10, 12] (C.racons (C.call O.tuple (C.acons (C.var 9) C.anil)) (C.racons (C.call O.tuple (C.acons (C.var 10) C.anil)) (C.racons (C.ucallM [true, false] d__law_number (C.acons (C.var 1) (C.acons (C.const (.int (9))) C.anil))) C.anil)))) (C.seq (C.par [13, 14] (C.racons (C.tup (C.acons (C.var 12) (C.acons (C.bin O.add (C.var 12) (C.ucallM [true, false] d__law_take (C.acons (C.var 1) (C.acons (C.const (.int (9))) C.anil)))) C.anil))) (C.racons (C.var 12) C.anil))) (C.seq (C.set 4 (C.ucallM [] d__law_levels (C.acons (C.var 10) (C.acons (C.var 14) C.anil)))) (C.seq (C.set 5 (C.call O.tuple (C.acons (C.lc (C.iter (C.call O.sorted (C.acons (C.ucallM [true, false, false] d__law_pick (C.acons (C.var 1) (C.acons (C.listI (C.iterA W.range1 (C.acons (C.call O.len (C.acons (C.var 4) C.anil)) C.anil))) (C.acons (C.ucallM [true, false] d__law_take (C.acons (C.var 1) (C.acons (C.const (.int (3))) C.anil))) C.anil)))) C.anil))) (C.gname 3) C.tyes (C.tup (C.acons (C.var 3) (C.acons (C.bin O.add (C.bin O.ix (C.var 4) (C.var 3)) (C.ite (C.tv (C.bin O.gt (C.ucallM [true, false] d__law_take (C.acons (C.var 1) (C.acons (C.const (.int (6))) C.anil))) (C.const (.int (0))))) (C.const (.int (0))) (C.const (.int (1))))) C.anil))) [3]) C.anil))) (C.seq (C.set 6 (C.tup (C.acons (C.var 14) (C.acons (C.var 10) C.anil)))) (C.seq (C.ifS (C.tnot (C.tru (C.ucallM [] (d__law_same 8) (C.acons (C.lst (C.acons (C.ucallM [] d_is_guess (C.acons (C.var 9) C.anil)) (C.acons (C.ucallM [] d_goes_with (C.acons (C.var 9) (C.acons (C.var 13) (C.acons (C.var 5) (C.acons (C.var 6) C.anil))))) C.anil))) (C.acons (C.lst (C.acons (C.const (.bl true)) (C.acons (C.bin O.eq (C.lc (C.iter (C.var 5)) (C.gtup 2 (C.gcons (C.gname 3) (C.gcons (C.gname 19) C.gnil))) (C.tv (C.bin O.ne (C.bin O.ix (C.var 4) (C.var 3)) (C.var 19))) (C.const (.int (1))) [3, 19]) (C.lst C.anil)) C.anil))) C.anil))))) (C.ret (C.const (.bl false))) C.pass) (C.seq (C.ifS (C.tnot (C.tru (C.ucallM [true, false, false, false, false] d__law_all_told (C.acons (C.var 1) (C.acons (C.var 9) (C.acons (C.var 13) (C.acons (C.var 5) (C.acons (C.lst (C.acons (C.var 6) (C.acons (C.tup (C.acons (C.bin O.add (C.var 14) (C.const (.int (1)))) (C.acons (C.var 10) C.anil))) C.anil))) C.anil)))))))) (C.ret (C.const (.bl false))) C.pass) (C.seq (C.set 7 (C.lc (C.iterA W.enum (C.acons (C.var 9) C.anil)) (C.gtup 2 (C.gcons (C.gname 3) (C.gcons (C.gtup 3 (C.gcons (C.gname 17) (C.gcons (C.gname 18) (C.gcons (C.gname 11) C.gnil)))) C.gnil))) (C.tv (C.bin O.lt (C.var 18) (C.var 11))) (C.var 3) [3, 17, 18, 11])) (C.seq (C.ifS (C.tv (C.bin O.ne (C.var 7) (C.lst C.anil))) (C.seq (C.set 3 (C.ucallM [true, false] d__law_of (C.acons (C.var 1) (C.acons (C.var 7) C.anil))))
    (C.seq (C.asg (C.gtup 3 (C.gcons (C.gname 17) (C.gcons (C.gname 18) (C.gcons (C.gname 11) C.gnil)))) (C.bin O.ix (C.var 9) (C.var 3)))
    (C.seq (C.set 15 (C.bin O.add (C.var 18) (C.ucallM [true, false] d__law_take (C.acons (C.var 1) (C.acons (C.bin O.sub (C.var 11) (C.var 18)) C.anil)))))
    (C.seq (C.set 16 (C.lst (C.acons (C.tup (C.acons (C.bin O.add (C.bin O.add (C.slice (C.var 9) C.pnone (C.psome (C.var 3))) (C.tup (C.acons (C.tup (C.acons (C.var 17) (C.acons (C.var 18) (C.acons (C.var 15) C.anil)))) C.anil))) (C.slice (C.var 9) (C.psome (C.bin O.add (C.var 3) (C.const (.int (1))))) C.pnone)) (C.acons (C.var 13) C.anil))) (C.acons (C.tup (C.acons (C.bin O.add (C.bin O.add (C.slice (C.var 9) C.pnone (C.psome (C.var 3))) (C.tup (C.acons (C.tup (C.acons (C.var 17) (C.acons (C.bin O.add (C.var 15) (C.const (.int (1)))) (C.acons (C.var 11) C.anil)))) C.anil))) (C.slice (C.var 9) (C.psome (C.bin O.add (C.var 3) (C.const (.int (1))))) C.pnone)) (C.acons (C.var 13) C.anil))) C.anil))))
    (C.ifS (C.tnot (C.tru (C.ucallM [true, false, false, false, false] d__law_halves_right (C.acons (C.var 1) (C.acons (C.tup (C.acons (C.var 9) (C.acons (C.var 13) C.anil))) (C.acons (C.var 16) (C.acons (C.var 5) (C.acons (C.var 6) C.anil)))))))) (C.ret (C.const (.bl false))) C.pass))))) C.pass) (C.seq (C.ifS (C.tv (C.bin O.lt (C.bin O.ix (C.var 13) (C.const (.int (0)))) (C.bin O.ix (C.var 13) (C.const (.int (1)))))) (C.seq (C.set 15 (C.bin O.add (C.bin O.ix (C.var 13) (C.const (.int (0)))) (C.ucallM [true, false] d__law_take (C.acons (C.var 1) (C.acons (C.bin O.sub (C.bin O.ix (C.var 13) (C.const (.int (1)))) (C.bin O.ix (C.var 13) (C.const (.int (0))))) C.anil)))))
    (C.ifS (C.tnot (C.tru (C.ucallM [true, false, false, false, false] d__law_halves_right (C.acons (C.var 1) (C.acons (C.tup (C.acons (C.var 9) (C.acons (C.var 13) C.anil))) (C.acons (C.lst (C.acons (C.tup (C.acons (C.var 9) (C.acons (C.tup (C.acons (C.bin O.ix (C.var 13) (C.const (.int (0)))) (C.acons (C.var 15) C.anil))) C.anil))) (C.acons (C.tup (C.acons (C.var 9) (C.acons (C.tup (C.acons (C.bin O.add (C.var 15) (C.const (.int (1)))) (C.acons (C.bin O.ix (C.var 13) (C.const (.int (1)))) C.anil))) C.anil))) C.anil))) (C.acons (C.var 5) (C.acons (C.var 6) C.anil)))))))) (C.ret (C.const (.bl false))) C.pass)) C.pass) (C.seq (C.set 8 (C.lst (C.acons (C.tup (C.acons (C.var 9) (C.acons (C.tup (C.acons (C.const (.non)) (C.acons (C.var 12) C.anil))) C.anil))) (C.acons (C.tup (C.acons (C.var 9) (C.acons (C.tup (C.acons (C.bin O.add (C.var 12) (C.const (.int (1)))) (C.acons (C.const (.non)) C.anil))) C.anil))) C.anil)))) (C.ifS (C.tor (C.tnot (C.tru (C.ucallM [true, false, false, false, false] d__law_halves_right (C.acons (C.var 1) (C.acons (C.tup (C.acons (C.var 9) (C.acons (C.tup (C.acons (C.const (.non)) (C.acons (C.const (.non)) C.anil))) C.anil))) (C.acons (C.var 8) (C.acons (C.var 5) (C.acons (C.var 6) C.anil)))))))) (C.tnot (C.tru (C.ucallM [true, false, false, false, false] d__law_more_right (C.acons (C.var 1) (C.acons (C.var 9) (C.acons (C.var 13) (C.acons (C.var 5) (C.acons (C.var 6) C.anil))))))))) (C.ret (C.const (.bl false))) C.pass)))))))))))))) [some (.val (.kls (ns.map D.int))), some (.own (.lst u)), none, none, none, none, none, none, none, none, none, none, none, none, none, none, none, none, none, none] = _ := forS_of (sl1 := [some (.val (.kls (ns.map D.int))), some (.own (.lst u)), none, none, none, none, none, none, none, none, none, none, none, none, none, none, none, none, none, none]) (by simp; rfl) lp
  have main : ∃ sl, b_law [some (.val (.kls (ns.map D.int))), none, none, none, none, none, none, none, none, none, none, none, none, none, none, none, none, none, none, none] = .rt (.v (.bl true)) sl := by
    unfold b_law
    exact ⟨_, seq_step (sl1 := [some (.val (.kls (ns.map D.int))), some (.own (.lst u)), none, none, none, none, none, none, none, none, none, none, none, none, none, none, none, none, none, none]) (by simp [hc, hb]) (seq_step f rfl)⟩
  obtain ⟨sl, m⟩ := main
  exact ⟨_, body_rt (np := 1) (nl := 20) (b := b_law) (xs := [.val (.kls (ns.map D.int))]) rfl m⟩
end RF.L
set_option maxRecDepth 100000
set_option maxHeartbeats 0
namespace RF.L
open PySem PySem.Spec L2 RF
def fnL : List He.DefD := [⟨("is_number", none), "is_number", "is_number", defArgs (top 5), defBody (top 5), defScope (top 5), [], []⟩,
⟨("is_event", none), "is_event", "is_event", defArgs (top 6), defBody (top 6), defScope (top 6), [], []⟩,
⟨("is_row", none), "is_row", "is_row", defArgs (top 7), defBody (top 7), defScope (top 7), [], []⟩,
⟨("behind", none), "behind", "behind", defArgs (top 8), defBody (top 8), defScope (top 8), [], []⟩,
⟨("levels_of", none), "levels_of", "levels_of", defArgs (top 10), defBody (top 10), defScope (top 10), [], []⟩,
⟨("is_triple", none), "is_triple", "is_triple", defArgs (top 13), defBody (top 13), defScope (top 13), [], []⟩,
⟨("is_guess", none), "is_guess", "is_guess", defArgs (top 14), defBody (top 14), defScope (top 14), [], []⟩,
⟨("fits_guess", none), "fits_guess", "fits_guess", defArgs (top 15), defBody (top 15), defScope (top 15), [], []⟩,
⟨("is_in", none), "is_in", "is_in", defArgs (top 16), defBody (top 16), defScope (top 16), [], []⟩,
⟨("goes_with", none), "goes_with", "goes_with", defArgs (top 17), defBody (top 17), defScope (top 17), [], []⟩,
⟨("common", none), "common", "common", defArgs (top 18), defBody (top 18), defScope (top 18), [], []⟩,
⟨("more_by", none), "more_by", "more_by", defArgs (top 19), defBody (top 19), defScope (top 19), [], []⟩,
⟨("turned", none), "turned", "turned", defArgs (top 20), defBody (top 20), defScope (top 20), [], []⟩,
⟨("turned_about", none), "turned_about", "turned_about", defArgs (top 21), defBody (top 21), defScope (top 21), [], []⟩,
⟨("ahead_of", none), "ahead_of", "ahead_of", defArgs (top 22), defBody (top 22), defScope (top 22), [], []⟩,
⟨("back_of", none), "back_of", "back_of", defArgs (top 23), defBody (top 23), defScope (top 23), [], []⟩,
⟨("read_at", none), "read_at", "read_at", defArgs (top 24), defBody (top 24), defScope (top 24), [], []⟩,
⟨("ways_on", none), "ways_on", "ways_on", defArgs (top 25), defBody (top 25), defScope (top 25), [], []⟩,
⟨("ways_back", none), "ways_back", "ways_back", defArgs (top 26), defBody (top 26), defScope (top 26), [], []⟩,
⟨("levels_by", none), "levels_by", "levels_by", defArgs (top 27), defBody (top 27), defScope (top 27), [], []⟩,
⟨("numbers_of", none), "numbers_of", "numbers_of", defArgs (top 28), defBody (top 28), defScope (top 28), [], []⟩,
⟨("numbers_by", none), "numbers_by", "numbers_by", defArgs (top 29), defBody (top 29), defScope (top 29), [], []⟩,
⟨("some_of", none), "some_of", "some_of", defArgs (top 30), defBody (top 30), defScope (top 30), [], []⟩,
⟨("going", none), "going", "going", defArgs (top 31), defBody (top 31), defScope (top 31), [], []⟩,
⟨("settled", none), "settled", "settled", defArgs (top 32), defBody (top 32), defScope (top 32), [], []⟩,
⟨("needless_readings", none), "needless_readings", "needless_readings", defArgs (top 33), defBody (top 33), defScope (top 33), [], []⟩,
⟨("first_wrong", none), "first_wrong", "first_wrong", defArgs (top 34), defBody (top 34), defScope (top 34), [], []⟩,
⟨("_law_box", none), "_law_box", "_law_box", defArgs (top 36), defBody (top 36), defScope (top 36), [], []⟩,
⟨("_law_take", none), "_law_take", "_law_take", defArgs (top 37), defBody (top 37), defScope (top 37), [], []⟩,
⟨("_law_cells", none), "_law_cells", "_law_cells", defArgs (top 38), defBody (top 38), defScope (top 38), [], []⟩,
⟨("_law_of", none), "_law_of", "_law_of", defArgs (top 39), defBody (top 39), defScope (top 39), [], []⟩,
⟨("_law_same", none), "_law_same", "_law_same", defArgs (top 40), defBody (top 40), defScope (top 40), [], []⟩,
⟨("_law_lists", none), "_law_lists", "_law_lists", defArgs (top 41), defBody (top 41), defScope (top 41), [], []⟩,
⟨("_law_soft", none), "_law_soft", "_law_soft", defArgs (top 42), defBody (top 42), defScope (top 42), [], []⟩,
⟨("_law_number", none), "_law_number", "_law_number", defArgs (top 43), defBody (top 43), defScope (top 43), [], []⟩,
⟨("_law_done", none), "_law_done", "_law_done", defArgs (top 44), defBody (top 44), defScope (top 44), [], []⟩,
⟨("_law_levels", none), "_law_levels", "_law_levels", defArgs (top 45), defBody (top 45), defScope (top 45), [], []⟩,
⟨("_law_inside", none), "_law_inside", "_law_inside", defArgs (top 46), defBody (top 46), defScope (top 46), [], []⟩,
⟨("_law_both", none), "_law_both", "_law_both", defArgs (top 47), defBody (top 47), defScope (top 47), [], []⟩,
⟨("_law_pick", none), "_law_pick", "_law_pick", defArgs (top 48), defBody (top 48), defScope (top 48), [], []⟩,
⟨("_law_pairs", none), "_law_pairs", "_law_pairs", defArgs (top 49), defBody (top 49), defScope (top 49), [], []⟩,
⟨("_law_ranges", none), "_law_ranges", "_law_ranges", defArgs (top 50), defBody (top 50), defScope (top 50), [], []⟩,
⟨("_law_all_told", none), "_law_all_told", "_law_all_told", defArgs (top 51), defBody (top 51), defScope (top 51), [], []⟩,
⟨("_law_joined", none), "_law_joined", "_law_joined", defArgs (top 52), defBody (top 52), defScope (top 52), [], []⟩,
⟨("_law_later", none), "_law_later", "_law_later", defArgs (top 53), defBody (top 53), defScope (top 53), [], []⟩,
⟨("_law_halves_right", none), "_law_halves_right", "_law_halves_right", defArgs (top 54), defBody (top 54), defScope (top 54), [], []⟩,
⟨("_law_more_right", none), "_law_more_right", "_law_more_right", defArgs (top 55), defBody (top 55), defScope (top 55), [], []⟩,
⟨("law", none), "law", "law", defArgs (top 56), defBody (top 56), defScope (top 56), [], []⟩]
def glL0 : List PySem.Str := ["is_number", "is_event", "is_row", "behind", "levels_of", "is_triple", "is_guess", "fits_guess", "is_in", "goes_with", "common", "more_by", "turned", "turned_about", "ahead_of", "back_of", "read_at", "ways_on", "ways_back", "levels_by"]
def glL1 : List PySem.Str := ["numbers_of", "numbers_by", "some_of", "going", "settled", "needless_readings", "first_wrong", "_law_box", "_law_take", "_law_cells", "_law_of", "_law_same", "_law_lists", "_law_soft", "_law_number", "_law_done", "_law_levels", "_law_inside", "_law_both", "_law_pick"]
def glL2 : List PySem.Str := ["_law_pairs", "_law_ranges", "_law_all_told", "_law_joined", "_law_later", "_law_halves_right", "_law_more_right", "law"]
def glL : List PySem.Str := glL0 ++ glL1 ++ glL2
def frL0 : List PySem.Str := ["abs", "all", "bool", "enumerate", "int", "isinstance", "len", "list", "max", "min", "range", "set", "sorted", "str", "tuple", "zip"]
def frL : List PySem.Str := frL0
def txt : Txt := ⟨glL, frL, [("ADD", k_ADD), ("FLOOR", k_FLOOR), ("CAP", k_CAP), ("WORDS", k_WORDS), ("EVERY", k_EVERY)], fnL⟩
section
variable {P : Program} {w : World} {K : PySem.W.Frag} {mg : Str → Option Value} {base : Heap}
theorem r_is_number (c : Facts txt K mg) : RFn P w K mg base 1 "is_number" ⟨1, d_is_number, []⟩ := by
  obtain ⟨fd, F⟩ := c.fn 0 _ rfl
  exact def_ok (S := S_is_number) (b := b_is_number) (ps := ["value"]) (k := 0) F (c.glo "is_number" (by decide +kernel)) rfl rfl (by decide +kernel) c_is_number (rests c True.intro True.intro (by decide +kernel)) fun _ _ _ _ _ _ us hl => match us, hl with | [_], _ => rfl
theorem r_is_event (c : Facts txt K mg) : RFn P w K mg base 2 "is_event" ⟨1, d_is_event, []⟩ := by
  obtain ⟨fd, F⟩ := c.fn 1 _ rfl
  exact def_ok (S := S_is_event) (b := b_is_event) (ps := ["thing"]) (k := 1) F (c.glo "is_event" (by decide +kernel)) rfl rfl (by decide +kernel) c_is_event (rests c ⟨(r_is_number c).mono (by decide), True.intro⟩ ⟨c.cst 3 _ rfl, True.intro⟩ (by decide +kernel)) fun _ _ _ _ _ _ us hl => match us, hl with | [_], _ => rfl
theorem r_is_row (c : Facts txt K mg) : RFn P w K mg base 3 "is_row" ⟨1, d_is_row, []⟩ := by
  obtain ⟨fd, F⟩ := c.fn 2 _ rfl
  exact def_ok (S := S_is_row) (b := b_is_row) (ps := ["thing"]) (k := 2) F (c.glo "is_row" (by decide +kernel)) rfl rfl (by decide +kernel) c_is_row (rests c ⟨(r_is_event c).mono (by decide), True.intro⟩ True.intro (by decide +kernel)) fun _ _ _ _ _ _ us hl => match us, hl with | [_], _ => rfl
theorem r_behind (c : Facts txt K mg) : RFn P w K mg base 1 "behind" ⟨2, d_behind, []⟩ := by
  obtain ⟨fd, F⟩ := c.fn 3 _ rfl
  exact def_ok (S := S_behind) (b := b_behind) (ps := ["level", "event"]) (k := 0) F (c.glo "behind" (by decide +kernel)) rfl rfl (by decide +kernel) c_behind (rests c True.intro ⟨c.cst 0 _ rfl, c.cst 1 _ rfl, True.intro⟩ (by decide +kernel)) fun _ _ _ _ _ _ us hl => match us, hl with | [_, _], _ => rfl
theorem r_levels_of (c : Facts txt K mg) : RFn P w K mg base 2 "levels_of" ⟨2, d_levels_of, []⟩ := by
  obtain ⟨fd, F⟩ := c.fn 4 _ rfl
  exact def_ok (S := S_levels_of) (b := b_levels_of) (ps := ["row", "start"]) (k := 1) F (c.glo "levels_of" (by decide +kernel)) rfl rfl (by decide +kernel) c_levels_of (rests c ⟨(r_behind c).mono (by decide), True.intro⟩ True.intro (by decide +kernel)) fun _ _ _ _ _ _ us hl => match us, hl with | [_, _], _ => rfl
theorem r_is_triple (c : Facts txt K mg) : RFn P w K mg base 2 "is_triple" ⟨1, d_is_triple, []⟩ := by
  obtain ⟨fd, F⟩ := c.fn 5 _ rfl
  exact def_ok (S := S_is_triple) (b := b_is_triple) (ps := ["thing"]) (k := 1) F (c.glo "is_triple" (by decide +kernel)) rfl rfl (by decide +kernel) c_is_triple (rests c ⟨(r_is_number c).mono (by decide), True.intro⟩ ⟨c.cst 3 _ rfl, True.intro⟩ (by decide +kernel)) fun _ _ _ _ _ _ us hl => match us, hl with | [_], _ => rfl
theorem r_is_guess (c : Facts txt K mg) : RFn P w K mg base 3 "is_guess" ⟨1, d_is_guess, []⟩ := by
  obtain ⟨fd, F⟩ := c.fn 6 _ rfl
  exact def_ok (S := S_is_guess) (b := b_is_guess) (ps := ["thing"]) (k := 2) F (c.glo "is_guess" (by decide +kernel)) rfl rfl (by decide +kernel) c_is_guess (rests c ⟨(r_is_triple c).mono (by decide), True.intro⟩ True.intro (by decide +kernel)) fun _ _ _ _ _ _ us hl => match us, hl with | [_], _ => rfl
theorem r_fits_guess (c : Facts txt K mg) : RFn P w K mg base 1 "fits_guess" ⟨2, d_fits_guess, []⟩ := by
  obtain ⟨fd, F⟩ := c.fn 7 _ rfl
  exact def_ok (S := S_fits_guess) (b := b_fits_guess) (ps := ["guess", "row"]) (k := 0) F (c.glo "fits_guess" (by decide +kernel)) rfl rfl (by decide +kernel) c_fits_guess (rests c True.intro True.intro (by decide +kernel)) fun _ _ _ _ _ _ us hl => match us, hl with | [_, _], _ => rfl
theorem r_is_in (c : Facts txt K mg) : RFn P w K mg base 1 "is_in" ⟨2, d_is_in, []⟩ := by
  obtain ⟨fd, F⟩ := c.fn 8 _ rfl
  exact def_ok (S := S_is_in) (b := b_is_in) (ps := ["stretch", "level"]) (k := 0) F (c.glo "is_in" (by decide +kernel)) rfl rfl (by decide +kernel) c_is_in (rests c True.intro True.intro (by decide +kernel)) fun _ _ _ _ _ _ us hl => match us, hl with | [_, _], _ => rfl
theorem r_goes_with (c : Facts txt K mg) : RFn P w K mg base 4 "goes_with" ⟨4, d_goes_with, []⟩ := by
  obtain ⟨fd, F⟩ := c.fn 9 _ rfl
  exact def_ok (S := S_goes_with) (b := b_goes_with) (ps := ["guess", "starts", "readings", "thing"]) (k := 3) F (c.glo "goes_with" (by decide +kernel)) rfl rfl (by decide +kernel) c_goes_with (rests c ⟨(r_levels_of c).mono (by decide), (r_fits_guess c).mono (by decide), (r_is_in c).mono (by decide), (r_is_row c).mono (by decide), (r_is_number c).mono (by decide), True.intro⟩ True.intro (by decide +kernel)) fun _ _ _ _ _ _ us hl => match us, hl with | [_, _, _, _], _ => rfl
theorem r_common (c : Facts txt K mg) : RFn P w K mg base 1 "common" ⟨2, d_common, []⟩ := by
  obtain ⟨fd, F⟩ := c.fn 10 _ rfl
  exact def_ok (S := S_common) (b := b_common) (ps := ["one", "other"]) (k := 0) F (c.glo "common" (by decide +kernel)) rfl rfl (by decide +kernel) c_common (rests c True.intro True.intro (by decide +kernel)) fun _ _ _ _ _ _ us hl => match us, hl with | [_, _], _ => rfl
theorem r_more_by (c : Facts txt K mg) : RFn P w K mg base 1 "more_by" ⟨2, d_more_by, []⟩ := by
  obtain ⟨fd, F⟩ := c.fn 11 _ rfl
  exact def_ok (S := S_more_by) (b := b_more_by) (ps := ["bound", "number"]) (k := 0) F (c.glo "more_by" (by decide +kernel)) rfl rfl (by decide +kernel) c_more_by (rests c True.intro True.intro (by decide +kernel)) fun _ _ _ _ _ _ us hl => match us, hl with | [_, _], _ => rfl
theorem r_turned (c : Facts txt K mg) : RFn P w K mg base 1 "turned" ⟨1, d_turned, []⟩ := by
  obtain ⟨fd, F⟩ := c.fn 12 _ rfl
  exact def_ok (S := S_turned) (b := b_turned) (ps := ["stretch"]) (k := 0) F (c.glo "turned" (by decide +kernel)) rfl rfl (by decide +kernel) c_turned (rests c True.intro True.intro (by decide +kernel)) fun _ _ _ _ _ _ us hl => match us, hl with | [_], _ => rfl
theorem r_turned_about (c : Facts txt K mg) : RFn P w K mg base 1 "turned_about" ⟨1, d_turned_about, []⟩ := by
  obtain ⟨fd, F⟩ := c.fn 13 _ rfl
  exact def_ok (S := S_turned_about) (b := b_turned_about) (ps := ["triple"]) (k := 0) F (c.glo "turned_about" (by decide +kernel)) rfl rfl (by decide +kernel) c_turned_about (rests c True.intro ⟨c.cst 1 _ rfl, True.intro⟩ (by decide +kernel)) fun _ _ _ _ _ _ us hl => match us, hl with | [_], _ => rfl
theorem q_ahead_of (c : Facts txt K mg) : ∀ j : Nat, RFn P w K mg base (j + 1) "ahead_of" ⟨2, d_ahead_of j, []⟩
  | 0 => by
    obtain ⟨fd, F⟩ := c.fn 14 _ rfl
    exact def_none (ps := ["stretch", "triple"]) F (c.glo "ahead_of" (by decide +kernel)) fun _ _ _ _ _ _ us hl => match us, hl with | [_, _], _ => rfl
  | j + 1 => by
    obtain ⟨fd, F⟩ := c.fn 14 _ rfl
    have ih := q_ahead_of c j
    exact (def_ok (S := S_ahead_of (d_ahead_of j)) (b := b_ahead_of (d_ahead_of j)) (ps := ["stretch", "triple"]) (k := j + 1) F (c.glo "ahead_of" (by decide +kernel)) rfl rfl (by kernel_rfl) (c_ahead_of _) (rests c ⟨(r_turned c).mono (by omega), ih, (r_turned_about c).mono (by omega), (r_more_by c).mono (by omega), True.intro⟩ ⟨c.cst 0 _ rfl, c.cst 1 _ rfl, True.intro⟩ (by kernel_rfl)) fun _ _ _ _ _ _ us hl => match us, hl with | [_, _], _ => rfl).mono (by omega)
theorem r_ahead_of (c : Facts txt K mg) : RFn P w K mg base 4 "ahead_of" ⟨2, d_ahead_of 3, []⟩ := q_ahead_of c 3
theorem q_back_of (c : Facts txt K mg) : ∀ j : Nat, RFn P w K mg base (j + 1) "back_of" ⟨2, d_back_of j, []⟩
  | 0 => by
    obtain ⟨fd, F⟩ := c.fn 15 _ rfl
    exact def_none (ps := ["stretch", "triple"]) F (c.glo "back_of" (by decide +kernel)) fun _ _ _ _ _ _ us hl => match us, hl with | [_, _], _ => rfl
  | j + 1 => by
    obtain ⟨fd, F⟩ := c.fn 15 _ rfl
    have ih := q_back_of c j
    exact (def_ok (S := S_back_of (d_back_of j)) (b := b_back_of (d_back_of j)) (ps := ["stretch", "triple"]) (k := j + 1) F (c.glo "back_of" (by decide +kernel)) rfl rfl (by kernel_rfl) (c_back_of _) (rests c ⟨(r_turned c).mono (by omega), ih, (r_turned_about c).mono (by omega), (r_more_by c).mono (by omega), True.intro⟩ ⟨c.cst 0 _ rfl, c.cst 1 _ rfl, True.intro⟩ (by kernel_rfl)) fun _ _ _ _ _ _ us hl => match us, hl with | [_, _], _ => rfl).mono (by omega)
theorem r_back_of (c : Facts txt K mg) : RFn P w K mg base 4 "back_of" ⟨2, d_back_of 3, []⟩ := q_back_of c 3
theorem r_read_at (c : Facts txt K mg) : RFn P w K mg base 2 "read_at" ⟨2, d_read_at, []⟩ := by
  obtain ⟨fd, F⟩ := c.fn 16 _ rfl
  exact def_ok (S := S_read_at) (b := b_read_at) (ps := ["readings", "moment"]) (k := 1) F (c.glo "read_at" (by decide +kernel)) rfl rfl (by decide +kernel) c_read_at (rests c ⟨(r_common c).mono (by decide), True.intro⟩ ⟨c.cst 4 _ rfl, True.intro⟩ (by decide +kernel)) fun _ _ _ _ _ _ us hl => match us, hl with | [_, _], _ => rfl
theorem r_ways_on (c : Facts txt K mg) : RFn P w K mg base 5 "ways_on" ⟨3, d_ways_on, []⟩ := by
  obtain ⟨fd, F⟩ := c.fn 17 _ rfl
  exact def_ok (S := S_ways_on) (b := b_ways_on) (ps := ["guess", "starts", "readings"]) (k := 4) F (c.glo "ways_on" (by decide +kernel)) rfl rfl (by decide +kernel) c_ways_on (rests c ⟨(r_common c).mono (by decide), (r_read_at c).mono (by decide), (r_ahead_of c).mono (by decide), True.intro⟩ True.intro (by decide +kernel)) fun _ _ _ _ _ _ us hl => match us, hl with | [_, _, _], _ => rfl
theorem r_ways_back (c : Facts txt K mg) : RFn P w K mg base 5 "ways_back" ⟨2, d_ways_back, []⟩ := by
  obtain ⟨fd, F⟩ := c.fn 18 _ rfl
  exact def_ok (S := S_ways_back) (b := b_ways_back) (ps := ["guess", "readings"]) (k := 4) F (c.glo "ways_back" (by decide +kernel)) rfl rfl (by decide +kernel) c_ways_back (rests c ⟨(r_common c).mono (by decide), (r_read_at c).mono (by decide), (r_back_of c).mono (by decide), True.intro⟩ True.intro (by decide +kernel)) fun _ _ _ _ _ _ us hl => match us, hl with | [_, _], _ => rfl
theorem r_levels_by (c : Facts txt K mg) : RFn P w K mg base 6 "levels_by" ⟨3, d_levels_by, []⟩ := by
  obtain ⟨fd, F⟩ := c.fn 19 _ rfl
  exact def_ok (S := S_levels_by) (b := b_levels_by) (ps := ["guess", "starts", "readings"]) (k := 5) F (c.glo "levels_by" (by decide +kernel)) rfl rfl (by decide +kernel) c_levels_by (rests c ⟨(r_ways_back c).mono (by decide), (r_ways_on c).mono (by decide), (r_common c).mono (by decide), True.intro⟩ True.intro (by decide +kernel)) fun _ _ _ _ _ _ us hl => match us, hl with | [_, _, _], _ => rfl
theorem q_numbers_of (c : Facts txt K mg) : ∀ j : Nat, RFn P w K mg base (j + 1) "numbers_of" ⟨3, d_numbers_of j, []⟩
  | 0 => by
    obtain ⟨fd, F⟩ := c.fn 20 _ rfl
    exact def_none (ps := ["triple", "here", "there"]) F (c.glo "numbers_of" (by decide +kernel)) fun _ _ _ _ _ _ us hl => match us, hl with | [_, _, _], _ => rfl
  | j + 1 => by
    obtain ⟨fd, F⟩ := c.fn 20 _ rfl
    have ih := q_numbers_of c j
    exact (def_ok (S := S_numbers_of (d_numbers_of j)) (b := b_numbers_of (d_numbers_of j)) (ps := ["triple", "here", "there"]) (k := j + 1) F (c.glo "numbers_of" (by decide +kernel)) rfl rfl (by kernel_rfl) (c_numbers_of _) (rests c ⟨(r_common c).mono (by omega), (r_turned c).mono (by omega), ih, (r_turned_about c).mono (by omega), True.intro⟩ ⟨c.cst 0 _ rfl, c.cst 1 _ rfl, True.intro⟩ (by kernel_rfl)) fun _ _ _ _ _ _ us hl => match us, hl with | [_, _, _], _ => rfl).mono (by omega)
theorem r_numbers_of (c : Facts txt K mg) : RFn P w K mg base 4 "numbers_of" ⟨3, d_numbers_of 3, []⟩ := q_numbers_of c 3
theorem r_numbers_by (c : Facts txt K mg) : RFn P w K mg base 6 "numbers_by" ⟨3, d_numbers_by, []⟩ := by
  obtain ⟨fd, F⟩ := c.fn 21 _ rfl
  exact def_ok (S := S_numbers_by) (b := b_numbers_by) (ps := ["guess", "starts", "readings"]) (k := 5) F (c.glo "numbers_by" (by decide +kernel)) rfl rfl (by decide +kernel) c_numbers_by (rests c ⟨(r_numbers_of c).mono (by decide), (r_common c).mono (by decide), (r_ways_back c).mono (by decide), (r_ways_on c).mono (by decide), True.intro⟩ True.intro (by decide +kernel)) fun _ _ _ _ _ _ us hl => match us, hl with | [_, _, _], _ => rfl
theorem r_some_of (c : Facts txt K mg) : RFn P w K mg base 1 "some_of" ⟨1, d_some_of, []⟩ := by
  obtain ⟨fd, F⟩ := c.fn 22 _ rfl
  exact def_ok (S := S_some_of) (b := b_some_of) (ps := ["stretch"]) (k := 0) F (c.glo "some_of" (by decide +kernel)) rfl rfl (by decide +kernel) c_some_of (rests c True.intro True.intro (by decide +kernel)) fun _ _ _ _ _ _ us hl => match us, hl with | [_], _ => rfl
theorem r_going (c : Facts txt K mg) : RFn P w K mg base 7 "going" ⟨3, d_going, []⟩ := by
  obtain ⟨fd, F⟩ := c.fn 23 _ rfl
  exact def_ok (S := S_going) (b := b_going) (ps := ["guess", "starts", "readings"]) (k := 6) F (c.glo "going" (by decide +kernel)) rfl rfl (by decide +kernel) c_going (rests c ⟨(r_some_of c).mono (by decide), (r_numbers_of c).mono (by decide), (r_levels_of c).mono (by decide), (r_ways_back c).mono (by decide), (r_levels_by c).mono (by decide), True.intro⟩ True.intro (by decide +kernel)) fun _ _ _ _ _ _ us hl => match us, hl with | [_, _, _], _ => rfl
theorem r_settled (c : Facts txt K mg) : RFn P w K mg base 7 "settled" ⟨3, d_settled, []⟩ := by
  obtain ⟨fd, F⟩ := c.fn 24 _ rfl
  exact def_ok (S := S_settled) (b := b_settled) (ps := ["guess", "starts", "readings"]) (k := 6) F (c.glo "settled" (by decide +kernel)) rfl rfl (by decide +kernel) c_settled (rests c ⟨(r_levels_by c).mono (by decide), True.intro⟩ True.intro (by decide +kernel)) fun _ _ _ _ _ _ us hl => match us, hl with | [_, _, _], _ => rfl
theorem r_needless_readings (c : Facts txt K mg) : RFn P w K mg base 7 "needless_readings" ⟨3, d_needless_readings, []⟩ := by
  obtain ⟨fd, F⟩ := c.fn 25 _ rfl
  exact def_ok (S := S_needless_readings) (b := b_needless_readings) (ps := ["guess", "starts", "readings"]) (k := 6) F (c.glo "needless_readings" (by decide +kernel)) rfl rfl (by decide +kernel) c_needless_readings (rests c ⟨(r_levels_by c).mono (by decide), True.intro⟩ True.intro (by decide +kernel)) fun _ _ _ _ _ _ us hl => match us, hl with | [_, _, _], _ => rfl
theorem r_first_wrong (c : Facts txt K mg) : RFn P w K mg base 7 "first_wrong" ⟨3, d_first_wrong, []⟩ := by
  obtain ⟨fd, F⟩ := c.fn 26 _ rfl
  exact def_ok (S := S_first_wrong) (b := b_first_wrong) (ps := ["guess", "starts", "readings"]) (k := 6) F (c.glo "first_wrong" (by decide +kernel)) rfl rfl (by decide +kernel) c_first_wrong (rests c ⟨(r_levels_by c).mono (by decide), True.intro⟩ True.intro (by decide +kernel)) fun _ _ _ _ _ _ us hl => match us, hl with | [_, _, _], _ => rfl
theorem r__law_box (c : Facts txt K mg) : RFn P w K mg base 1 "_law_box" ⟨2, d__law_box, []⟩ := by
  obtain ⟨fd, F⟩ := c.fn 27 _ rfl
  exact def_ok (S := S__law_box) (b := b__law_box) (ps := ["script", "k"]) (k := 0) F (c.glo "_law_box" (by decide +kernel)) rfl rfl (by decide +kernel) c__law_box (rests c True.intro True.intro (by decide +kernel)) fun _ _ _ _ _ _ us hl => match us, hl with | [_, _], _ => rfl
theorem r__law_take (c : Facts txt K mg) : RFn P w K mg base 1 "_law_take" ⟨2, d__law_take, [true, false]⟩ := by
  obtain ⟨fd, F⟩ := c.fn 28 _ rfl
  exact def_ok (S := S__law_take) (b := b__law_take) (ps := ["urn", "low"]) (k := 0) F (c.glo "_law_take" (by decide +kernel)) rfl rfl (by decide +kernel) c__law_take (rests c True.intro True.intro (by decide +kernel)) fun _ _ _ _ _ _ us hl => match us, hl with | [_, _], _ => rfl
theorem r__law_cells (c : Facts txt K mg) : RFn P w K mg base 1 "_law_cells" ⟨2, d__law_cells, []⟩ := by
  obtain ⟨fd, F⟩ := c.fn 29 _ rfl
  exact def_ok (S := S__law_cells) (b := b__law_cells) (ps := ["script", "roof"]) (k := 0) F (c.glo "_law_cells" (by decide +kernel)) rfl rfl (by decide +kernel) c__law_cells (rests c True.intro True.intro (by decide +kernel)) fun _ _ _ _ _ _ us hl => match us, hl with | [_, _], _ => rfl
theorem r__law_of (c : Facts txt K mg) : RFn P w K mg base 2 "_law_of" ⟨2, d__law_of, [true, false]⟩ := by
  obtain ⟨fd, F⟩ := c.fn 30 _ rfl
  exact def_ok (S := S__law_of) (b := b__law_of) (ps := ["urn", "some"]) (k := 1) F (c.glo "_law_of" (by decide +kernel)) rfl rfl (by decide +kernel) c__law_of (rests c ⟨(r__law_take c).mono (by decide), True.intro⟩ True.intro (by decide +kernel)) fun _ _ _ _ _ _ us hl => match us, hl with | [_, _], _ => rfl
theorem q__law_same (c : Facts txt K mg) : ∀ j : Nat, RFn P w K mg base (j + 0) "_law_same" ⟨2, d__law_same j, []⟩
  | 0 => by
    obtain ⟨fd, F⟩ := c.fn 31 _ rfl
    exact def_none (ps := ["mine", "due"]) F (c.glo "_law_same" (by decide +kernel)) fun _ _ _ _ _ _ us hl => match us, hl with | [_, _], _ => rfl
  | j + 1 => by
    obtain ⟨fd, F⟩ := c.fn 31 _ rfl
    have ih := q__law_same c j
    exact (def_ok (S := S__law_same (d__law_same j)) (b := b__law_same (d__law_same j)) (ps := ["mine", "due"]) (k := j + 0) F (c.glo "_law_same" (by decide +kernel)) rfl rfl (by kernel_rfl) (c__law_same _) (rests c ⟨ih, True.intro⟩ True.intro (by kernel_rfl)) fun _ _ _ _ _ _ us hl => match us, hl with | [_, _], _ => rfl).mono (by omega)
theorem r__law_same (c : Facts txt K mg) : RFn P w K mg base 8 "_law_same" ⟨2, d__law_same 8, []⟩ := q__law_same c 8
theorem q__law_lists (c : Facts txt K mg) : ∀ j : Nat, RFn P w K mg base (j + 0) "_law_lists" ⟨1, d__law_lists j, []⟩
  | 0 => by
    obtain ⟨fd, F⟩ := c.fn 32 _ rfl
    exact def_none (ps := ["matter"]) F (c.glo "_law_lists" (by decide +kernel)) fun _ _ _ _ _ _ us hl => match us, hl with | [_], _ => rfl
  | j + 1 => by
    obtain ⟨fd, F⟩ := c.fn 32 _ rfl
    have ih := q__law_lists c j
    exact (def_ok (S := S__law_lists (d__law_lists j)) (b := b__law_lists (d__law_lists j)) (ps := ["matter"]) (k := j + 0) F (c.glo "_law_lists" (by decide +kernel)) rfl rfl (by kernel_rfl) (c__law_lists _) (rests c ⟨ih, True.intro⟩ True.intro (by kernel_rfl)) fun _ _ _ _ _ _ us hl => match us, hl with | [_], _ => rfl).mono (by omega)
theorem r__law_lists (c : Facts txt K mg) : RFn P w K mg base 8 "_law_lists" ⟨1, d__law_lists 8, []⟩ := q__law_lists c 8
theorem r__law_soft (c : Facts txt K mg) : RFn P w K mg base 9 "_law_soft" ⟨2, d__law_soft, [true, false]⟩ := by
  obtain ⟨fd, F⟩ := c.fn 33 _ rfl
  exact def_ok (S := S__law_soft) (b := b__law_soft) (ps := ["urn", "matter"]) (k := 8) F (c.glo "_law_soft" (by decide +kernel)) rfl rfl (by decide +kernel) c__law_soft (rests c ⟨(r__law_take c).mono (by decide), (r__law_lists c).mono (by decide), True.intro⟩ True.intro (by decide +kernel)) fun _ _ _ _ _ _ us hl => match us, hl with | [_, _], _ => rfl
theorem r__law_number (c : Facts txt K mg) : RFn P w K mg base 2 "_law_number" ⟨2, d__law_number, [true, false]⟩ := by
  obtain ⟨fd, F⟩ := c.fn 34 _ rfl
  exact def_ok (S := S__law_number) (b := b__law_number) (ps := ["urn", "far"]) (k := 1) F (c.glo "_law_number" (by decide +kernel)) rfl rfl (by decide +kernel) c__law_number (rests c ⟨(r__law_take c).mono (by decide), True.intro⟩ True.intro (by decide +kernel)) fun _ _ _ _ _ _ us hl => match us, hl with | [_, _], _ => rfl
theorem r__law_done (c : Facts txt K mg) : RFn P w K mg base 1 "_law_done" ⟨2, d__law_done, []⟩ := by
  obtain ⟨fd, F⟩ := c.fn 35 _ rfl
  exact def_ok (S := S__law_done) (b := b__law_done) (ps := ["level", "event"]) (k := 0) F (c.glo "_law_done" (by decide +kernel)) rfl rfl (by decide +kernel) c__law_done (rests c True.intro True.intro (by decide +kernel)) fun _ _ _ _ _ _ us hl => match us, hl with | [_, _], _ => rfl
theorem r__law_levels (c : Facts txt K mg) : RFn P w K mg base 2 "_law_levels" ⟨2, d__law_levels, []⟩ := by
  obtain ⟨fd, F⟩ := c.fn 36 _ rfl
  exact def_ok (S := S__law_levels) (b := b__law_levels) (ps := ["row_so", "start"]) (k := 1) F (c.glo "_law_levels" (by decide +kernel)) rfl rfl (by decide +kernel) c__law_levels (rests c ⟨(r__law_done c).mono (by decide), True.intro⟩ True.intro (by decide +kernel)) fun _ _ _ _ _ _ us hl => match us, hl with | [_, _], _ => rfl
theorem r__law_inside (c : Facts txt K mg) : RFn P w K mg base 1 "_law_inside" ⟨2, d__law_inside, []⟩ := by
  obtain ⟨fd, F⟩ := c.fn 37 _ rfl
  exact def_ok (S := S__law_inside) (b := b__law_inside) (ps := ["stretch_so", "start"]) (k := 0) F (c.glo "_law_inside" (by decide +kernel)) rfl rfl (by decide +kernel) c__law_inside (rests c True.intro True.intro (by decide +kernel)) fun _ _ _ _ _ _ us hl => match us, hl with | [_, _], _ => rfl
theorem r__law_both (c : Facts txt K mg) : RFn P w K mg base 1 "_law_both" ⟨2, d__law_both, []⟩ := by
  obtain ⟨fd, F⟩ := c.fn 38 _ rfl
  exact def_ok (S := S__law_both) (b := b__law_both) (ps := ["one", "other"]) (k := 0) F (c.glo "_law_both" (by decide +kernel)) rfl rfl (by decide +kernel) c__law_both (rests c True.intro True.intro (by decide +kernel)) fun _ _ _ _ _ _ us hl => match us, hl with | [_, _], _ => rfl
theorem r__law_pick (c : Facts txt K mg) : RFn P w K mg base 2 "_law_pick" ⟨3, d__law_pick, [true, false, false]⟩ := by
  obtain ⟨fd, F⟩ := c.fn 39 _ rfl
  exact def_ok (S := S__law_pick) (b := b__law_pick) (ps := ["urn", "some", "many"]) (k := 1) F (c.glo "_law_pick" (by decide +kernel)) rfl rfl (by decide +kernel) c__law_pick (rests c ⟨(r__law_take c).mono (by decide), True.intro⟩ True.intro (by decide +kernel)) fun _ _ _ _ _ _ us hl => match us, hl with | [_, _, _], _ => rfl
theorem r__law_pairs (c : Facts txt K mg) : RFn P w K mg base 3 "_law_pairs" ⟨3, d__law_pairs, []⟩ := by
  obtain ⟨fd, F⟩ := c.fn 40 _ rfl
  exact def_ok (S := S__law_pairs) (b := b__law_pairs) (ps := ["guess", "starts", "readings"]) (k := 2) F (c.glo "_law_pairs" (by decide +kernel)) rfl rfl (by decide +kernel) c__law_pairs (rests c ⟨(r__law_both c).mono (by decide), (r__law_levels c).mono (by decide), True.intro⟩ True.intro (by decide +kernel)) fun _ _ _ _ _ _ us hl => match us, hl with | [_, _, _], _ => rfl
theorem r__law_ranges (c : Facts txt K mg) : RFn P w K mg base 1 "_law_ranges" ⟨1, d__law_ranges, []⟩ := by
  obtain ⟨fd, F⟩ := c.fn 41 _ rfl
  exact def_ok (S := S__law_ranges) (b := b__law_ranges) (ps := ["lots"]) (k := 0) F (c.glo "_law_ranges" (by decide +kernel)) rfl rfl (by decide +kernel) c__law_ranges (rests c True.intro True.intro (by decide +kernel)) fun _ _ _ _ _ _ us hl => match us, hl with | [_], _ => rfl
theorem r__law_all_told (c : Facts txt K mg) : RFn P w K mg base 10 "_law_all_told" ⟨5, d__law_all_told, [true, false, false, false, false]⟩ := by
  obtain ⟨fd, F⟩ := c.fn 42 _ rfl
  exact def_ok (S := S__law_all_told) (b := b__law_all_told) (ps := ["urn", "guess", "starts", "readings", "strange"]) (k := 9) F (c.glo "_law_all_told" (by decide +kernel)) rfl rfl (by decide +kernel) c__law_all_told (rests c ⟨(r__law_same c).mono (by decide), (r_needless_readings c).mono (by decide), (r_settled c).mono (by decide), (r_numbers_by c).mono (by decide), (r_levels_by c).mono (by decide), (r__law_pairs c).mono (by decide), (r__law_ranges c).mono (by decide), (r__law_levels c).mono (by decide), (r_goes_with c).mono (by decide), (r_first_wrong c).mono (by decide), (r__law_soft c).mono (by decide), (r_going c).mono (by decide), True.intro⟩ True.intro (by decide +kernel)) fun _ _ _ _ _ _ us hl => match us, hl with | [_, _, _, _, _], _ => rfl
theorem r__law_joined (c : Facts txt K mg) : RFn P w K mg base 1 "_law_joined" ⟨2, d__law_joined, []⟩ := by
  obtain ⟨fd, F⟩ := c.fn 43 _ rfl
  exact def_ok (S := S__law_joined) (b := b__law_joined) (ps := ["one", "other"]) (k := 0) F (c.glo "_law_joined" (by decide +kernel)) rfl rfl (by decide +kernel) c__law_joined (rests c True.intro True.intro (by decide +kernel)) fun _ _ _ _ _ _ us hl => match us, hl with | [_, _], _ => rfl
theorem r__law_later (c : Facts txt K mg) : RFn P w K mg base 1 "_law_later" ⟨2, d__law_later, []⟩ := by
  obtain ⟨fd, F⟩ := c.fn 44 _ rfl
  exact def_ok (S := S__law_later) (b := b__law_later) (ps := ["one", "other"]) (k := 0) F (c.glo "_law_later" (by decide +kernel)) rfl rfl (by decide +kernel) c__law_later (rests c True.intro True.intro (by decide +kernel)) fun _ _ _ _ _ _ us hl => match us, hl with | [_, _], _ => rfl
theorem r__law_halves_right (c : Facts txt K mg) : RFn P w K mg base 10 "_law_halves_right" ⟨5, d__law_halves_right, [true, false, false, false, false]⟩ := by
  obtain ⟨fd, F⟩ := c.fn 45 _ rfl
  exact def_ok (S := S__law_halves_right) (b := b__law_halves_right) (ps := ["urn", "whole", "halves", "readings", "thing"]) (k := 9) F (c.glo "_law_halves_right" (by decide +kernel)) rfl rfl (by decide +kernel) c__law_halves_right (rests c ⟨(r__law_same c).mono (by decide), (r_goes_with c).mono (by decide), (r__law_inside c).mono (by decide), (r_levels_of c).mono (by decide), (r_fits_guess c).mono (by decide), (r_settled c).mono (by decide), (r_going c).mono (by decide), (r__law_later c).mono (by decide), (r_first_wrong c).mono (by decide), (r__law_joined c).mono (by decide), (r_numbers_by c).mono (by decide), (r__law_soft c).mono (by decide), (r_levels_by c).mono (by decide), True.intro⟩ True.intro (by decide +kernel)) fun _ _ _ _ _ _ us hl => match us, hl with | [_, _, _, _, _], _ => rfl
theorem r__law_more_right (c : Facts txt K mg) : RFn P w K mg base 9 "_law_more_right" ⟨5, d__law_more_right, [true, false, false, false, false]⟩ := by
  obtain ⟨fd, F⟩ := c.fn 46 _ rfl
  exact def_ok (S := S__law_more_right) (b := b__law_more_right) (ps := ["urn", "guess", "starts", "readings", "thing"]) (k := 8) F (c.glo "_law_more_right" (by decide +kernel)) rfl rfl (by decide +kernel) c__law_more_right (rests c ⟨(r_needless_readings c).mono (by decide), (r__law_same c).mono (by decide), (r_first_wrong c).mono (by decide), (r_going c).mono (by decide), (r_levels_by c).mono (by decide), (r__law_inside c).mono (by decide), (r_goes_with c).mono (by decide), (r__law_levels c).mono (by decide), (r_numbers_by c).mono (by decide), (r__law_number c).mono (by decide), (r__law_take c).mono (by decide), True.intro⟩ True.intro (by decide +kernel)) fun _ _ _ _ _ _ us hl => match us, hl with | [_, _, _, _, _], _ => rfl
theorem r_law {fd : FuncData} (F : FunD K "law" "law" (defArgs (top 56)) (defBody (top 56)) (defScope (top 56)) [] [] (He.ga K "law") fd) (c : Facts txt K mg) : FnOk P w K mg base CX0 11 (He.ga K "law") fd ["script"] (spOf K 1 d_law) :=
  def_fn (S := S_law) (b := b_law) F rfl rfl (by decide +kernel) c_law (rests c ⟨(r__law_more_right c).mono (by decide), (r__law_halves_right c).mono (by decide), (r__law_take c).mono (by decide), (r__law_of c).mono (by decide), (r__law_all_told c).mono (by decide), (r__law_same c).mono (by decide), (r_goes_with c).mono (by decide), (r_is_guess c).mono (by decide), (r__law_pick c).mono (by decide), (r__law_levels c).mono (by decide), (r__law_number c).mono (by decide), (r__law_box c).mono (by decide), (r__law_cells c).mono (by decide), True.intro⟩ True.intro (by decide +kernel))
end
def names0 : List PySem.Str := ["ADD", "FLOOR", "CAP", "WORDS", "is_number", "is_event", "is_row", "behind", "levels_of", "EVERY", "is_triple", "is_guess", "fits_guess", "is_in", "goes_with", "common", "more_by", "turned", "turned_about", "ahead_of"]
def names1 : List PySem.Str := ["back_of", "read_at", "ways_on", "ways_back", "levels_by", "numbers_of", "numbers_by", "some_of", "going", "settled", "needless_readings", "first_wrong", "_law_box", "_law_take", "_law_cells", "_law_of", "_law_same", "_law_lists", "_law_soft", "_law_number"]
def names2 : List PySem.Str := ["_law_done", "_law_levels", "_law_inside", "_law_both", "_law_pick", "_law_pairs", "_law_ranges", "_law_all_told", "_law_joined", "_law_later", "_law_halves_right", "_law_more_right"]
def names : List PySem.Str := names0 ++ names1 ++ names2
abbrev RW95 : PySem.W.OpenRow := PySem.W.OpenLaw.row PySem.Challenge.rw_boundedlevels_k95_main_what_readings_tel
abbrev hk : PySem.W.Hook := hookR 4 txt
def ob (s : PySem.W.SharedT) : AlR := obsRG 4 txt (HandSHeadRun.getT s)
theorem ob_eq (s : PySem.W.SharedT) : ob s = hk.obs s.abs := obsRG_eq (HandSHeadRun.getT_eq s)
theorem run (w : World) : HandSHeadRun.RunEq RW95 (PySem.W.view RW95.prog [56]) hk ob 6000 names w := by
  intro os
  kernel_rfl
end RF.L
set_option maxRecDepth 100000
set_option maxHeartbeats 0
open PySem PySem.W PySem.Calls PyProof.Rows
theorem PySem.Challenge.cw_boundedlevels_k95_main_what_readings_tel_holds : PySem.Challenge.rw_boundedlevels_k95_main_what_readings_tel.Holds := by
  w_on; o_law
  refine HandSHeadRun.head_any (r := OpenLaw.row PySem.Challenge.rw_boundedlevels_k95_main_what_readings_tel) (q := view (OpenLaw.row PySem.Challenge.rw_boundedlevels_k95_main_what_readings_tel).prog [56]) (H := RF.L.hk) (ob := RF.L.ob) (M := 6000) (loose := RF.L.names) (d := HandSHeadRun.topDef (OpenLaw.row PySem.Challenge.rw_boundedlevels_k95_main_what_readings_tel).prog 56) (kwd := []) RF.L.ob_eq
    (by kernel_rfl) (fun s => by kernel_rfl) RF.L.run (by kernel_rfl) (by kernel_rfl) (by kernel_rfl) (by rfl) (by first | assumption | decide +kernel) (by decide +kernel) ⟨rfl, rfl, rfl, rfl, rfl, by decide +kernel⟩ ?hw ?hc
  case hw => w_witness2
  case hc =>
    refine L2.walk_ofE (l := PySem.Challenge.rw_boundedlevels_k95_main_what_readings_tel) (n := 63) (k := 11) (x := "script") (CX := L2.CX0) rfl (by decide) (by kernel_rfl) ⟨rfl, by decide, by decide⟩ ?F (fun _ _ _ _ z => z)
    intro w mg fa h Y G hmg0
    obtain ⟨K, KX, c⟩ := Y
    have hmg : mg ("law" : PySem.Str) = some (.ref fa) := by
      have e : (HandSHeadRun.topDef (OpenLaw.row PySem.Challenge.rw_boundedlevels_k95_main_what_readings_tel).prog 56).name = ("law" : PySem.Str) := by kernel_rfl
      rw [← e]
      exact hmg0
    have cf := RF.facts_of KX G c
    have e := hmg.symm.trans (cf.glo "law" (by decide +kernel))
    cases e
    obtain ⟨fd, F⟩ := cf.fn 47 _ rfl
    have b := L2.FunD.bindsA (ps := ["script"]) F fun _ _ _ _ _ _ us hl => match us, hl with | [_], _ => rfl
    refine ⟨K, fd, RF.spOf K 1 RF.L.d_law, KX, fun s v => b s [v] rfl, fun H a ns hl _ hS => ?_, fun base hK hB => RF.L.r_law F cf⟩
    obtain ⟨fin, hf⟩ := RF.L.law_true ns hl
    exact RF.law_start hS hf
