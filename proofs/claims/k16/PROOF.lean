import PyProof.Rows.All
import Wide.All
import OpenK.AllK
import Wide.FinOn
import HandS.ForMost
import HandS.Flow
import HandS.TupAny
import HandS.TupMul
import HandS.IsInst
import HandS.Deep
import PyProof.P3In
import HandS.SortInts
import HandS.Conv
import PyProof.ReprRoads
import HandS.Walk
import HandS.Zip
import KE.GoesMore
import KE.DataMinMax
import HandS.SortKw
import KE.GoesEnum
import HandS.More
import HandS.Set
import HandS.SetFor
import HandS.Strs
import HandS.Style
import KE.SortData
import PySem.Challenge.RW_viewturns_k16_whole_choices_against_cove
set_option Elab.async false
set_option linter.all false
set_option maxRecDepth 100000
set_option maxHeartbeats 4000000
/-! DL: values as trees over the layer HandS: what a piece of text computes, as a term over trees, and that it computes it. -/
namespace DL
open PySem L2

/-- a value with all that hangs below it -/
inductive D where
  | non | bl (b : Bool) | int (i : Int) | str (x : Str)
  | lst (xs : List D) | tup (xs : List D) | dct (kvs : List (D × D))
  | obj (C : Addr) (fs : List (Str × D)) | raw (v : V) | gen | scr (ns : List Int)

def kD : Key → D
  | .inl i => .int i
  | .inr x => .str x

/-! ### the source of draws: a list of a list of ints and two ints, known by what it is -/
def cellsO (c : Addr) : Heap → Prop := fun h => ∃ (its : List Value) (n : Nat) (ns : List Int), PyProof.Rows.IntsAre its ns ∧ ns ≠ [] ∧ (∀ x ∈ ns, 0 ≤ x) ∧ ns.length ≤ 63 ∧ h.get? c = some { cls := .type "list", data := .seq its.toArray n }
def genO (g c : Addr) : Heap → Prop := fun h => ∃ (i m : Int) (t u : Tok) (n : Nat), 0 ≤ i ∧ 0 ≤ m ∧ m < 2147483647 ∧ h.get? g = some { cls := .type "list", data := .seq #[.ref c, .int i t, .int m u] n }
def GenAt (H : Hp) (g c : Addr) : Prop := H g = some (.ext (genO g c)) ∧ H c = some (.ext (cellsO c)) ∧ g ≠ c

/-- the law's own list of ints -/
def ScrAt (K : PySem.W.Frag) (H : Hp) (a : Addr) (xs : List V) : Prop := (∃ o, H a = some (.frz o (.lst xs))) ∨ ∃ (o : Obj) (its : Array Value) (n : Nat), K.lookup a = some o ∧ o.cls = .type "list" ∧ o.dict = none ∧ o.data = .seq its n ∧ its.size ≤ sizeLine ∧ Vals xs its.toList
theorem ScrAt.sql {K : PySem.W.Frag} {H : Hp} {a : Addr} {xs : List V} (h : ScrAt K H a xs) : SqL K H a xs := by
  rcases h with h | h
  · exact .inl (.inr h)
  · exact .inr h
theorem ScrAt.mono {K : PySem.W.Frag} {H H' : Hp} {a : Addr} {xs : List V} (e : Same H H') (h : ScrAt K H a xs) : ScrAt K H' a xs := by
  rcases h with ⟨o, h⟩ | h
  · exact .inl ⟨o, e _ _ h⟩
  · exact .inr h

mutual
inductive Rep (K : PySem.W.Frag) (H : Hp) : V → D → Prop
  | non : Rep K H .non .non
  | bl (b : Bool) : Rep K H (.bl b) (.bl b)
  | int (i : Int) : Rep K H (.int i) (.int i)
  | str (x : Str) : Rep K H (.str x) (.str x)
  | lst {a : Addr} {vs : List V} {ds : List D} : H a = some (.lst vs) → RepL K H vs ds → Rep K H (.ref a) (.lst ds)
  | tup {a : Addr} {vs : List V} {ds : List D} : SqT K H a vs → RepL K H vs ds → Rep K H (.ref a) (.tup ds)
  | dct {a : Addr} {ks : List (Key × V)} {kvs : List (D × D)} : H a = some (.dK ks) → RepK K H ks kvs → Rep K H (.ref a) (.dct kvs)
  | raw (v : V) : Rep K H v (.raw v)
  | gen {g c : Addr} : GenAt H g c → Rep K H (.ref g) .gen
  | scr {a : Addr} {ns : List Int} : ScrAt K H a (ns.map V.int) → Rep K H (.ref a) (.scr ns)
inductive RepL (K : PySem.W.Frag) (H : Hp) : List V → List D → Prop
  | nil : RepL K H [] []
  | cons {v : V} {d : D} {vs : List V} {ds : List D} : Rep K H v d → RepL K H vs ds → RepL K H (v :: vs) (d :: ds)
inductive RepK (K : PySem.W.Frag) (H : Hp) : List (Key × V) → List (D × D) → Prop
  | nil : RepK K H [] []
  | cons {k : Key} {v : V} {d : D} {ks : List (Key × V)} {kvs : List (D × D)} : Rep K H v d → RepK K H ks kvs → RepK K H ((k, v) :: ks) ((kD k, d) :: kvs)
end

theorem sqT_same {K : PySem.W.Frag} {H H' : Hp} {a : Addr} {xs : List V} (e : Same H H') (h : SqT K H a xs) : SqT K H' a xs := by
  rcases h with (h | ⟨o, h⟩) | h
  · exact .inl (.inl (e _ _ h))
  · exact .inl (.inr ⟨o, e _ _ h⟩)
  · exact .inr h
section
variable {K : PySem.W.Frag} {H H' : Hp}
mutual
theorem Rep.mono (e : Same H H') : ∀ {v : V} {d : D}, Rep K H v d → Rep K H' v d
  | _, _, .non => .non
  | _, _, .bl b => .bl b
  | _, _, .int i => .int i
  | _, _, .str x => .str x
  | _, _, .lst h r => .lst (e _ _ h) (RepL.mono e r)
  | _, _, .tup h r => .tup (sqT_same e h) (RepL.mono e r)
  | _, _, .dct h r => .dct (e _ _ h) (RepK.mono e r)
  | _, _, .raw v => .raw v
  | _, _, .gen h => .gen ⟨e _ _ h.1, e _ _ h.2.1, h.2.2⟩
  | _, _, .scr h => .scr (h.mono e)
theorem RepL.mono (e : Same H H') : ∀ {vs : List V} {ds : List D}, RepL K H vs ds → RepL K H' vs ds
  | _, _, .nil => .nil
  | _, _, .cons r t => .cons (Rep.mono e r) (RepL.mono e t)
theorem RepK.mono (e : Same H H') : ∀ {ks : List (Key × V)} {kvs : List (D × D)}, RepK K H ks kvs → RepK K H' ks kvs
  | _, _, .nil => .nil
  | _, _, .cons r t => .cons (Rep.mono e r) (RepK.mono e t)
end
theorem RepL.length : ∀ {vs : List V} {ds : List D}, RepL K H vs ds → vs.length = ds.length
  | _, _, .nil => rfl
  | _, _, .cons _ t => by simp [RepL.length t]
theorem RepL.append : ∀ {vs ws : List V} {ds es : List D}, RepL K H vs ds → RepL K H ws es → RepL K H (vs ++ ws) (ds ++ es)
  | _, _, _, _, .nil, s => s
  | _, _, _, _, .cons r t, s => .cons r (RepL.append t s)
theorem RepL.get : ∀ {vs : List V} {ds : List D} {i : Nat} {d : D}, RepL K H vs ds → ds[i]? = some d → ∃ v, vs[i]? = some v ∧ Rep K H v d
  | _, _, _, _, .nil, e => by simp at e
  | _, _, 0, _, .cons r _, e => by simp at e; subst e; exact ⟨_, rfl, r⟩
  | _, _, i + 1, d, .cons _ t, e => by
    obtain ⟨v, h1, h2⟩ := RepL.get (i := i) (d := d) t (by simpa using e)
    exact ⟨v, by simpa using h1, h2⟩
theorem RepL.getV : ∀ {vs : List V} {ds : List D} {i : Nat} {v : V}, RepL K H vs ds → vs[i]? = some v → ∃ d, ds[i]? = some d ∧ Rep K H v d
  | _, _, _, _, .nil, e => by simp at e
  | _, _, 0, _, .cons r _, e => by simp at e; subst e; exact ⟨_, rfl, r⟩
  | _, _, i + 1, d, .cons _ t, e => by
    obtain ⟨v, h1, h2⟩ := RepL.getV (i := i) (v := d) t (by simpa using e)
    exact ⟨v, by simpa using h1, h2⟩
theorem RepL.take : ∀ {vs : List V} {ds : List D} (n : Nat), RepL K H vs ds → RepL K H (vs.take n) (ds.take n)
  | _, _, 0, _ => .nil
  | _, _, _ + 1, .nil => .nil
  | _, _, n + 1, .cons r t => .cons r (RepL.take n t)
theorem RepL.drop : ∀ {vs : List V} {ds : List D} (n : Nat), RepL K H vs ds → RepL K H (vs.drop n) (ds.drop n)
  | _, _, 0, r => r
  | _, _, _ + 1, .nil => .nil
  | _, _, n + 1, .cons _ t => RepL.drop n t
theorem RepL.set {v : V} {d : D} (r : Rep K H v d) : ∀ {vs : List V} {ds : List D} (i : Nat), RepL K H vs ds → RepL K H (vs.set i v) (ds.set i d)
  | _, _, _, .nil => .nil
  | _, _, 0, .cons _ t => .cons r t
  | _, _, i + 1, .cons q t => .cons q (RepL.set r i t)
theorem RepL.eraseIdx : ∀ {vs : List V} {ds : List D} (i : Nat), RepL K H vs ds → RepL K H (vs.eraseIdx i) (ds.eraseIdx i)
  | _, _, _, .nil => .nil
  | _, _, 0, .cons _ t => t
  | _, _, i + 1, .cons q t => .cons q (RepL.eraseIdx i t)
theorem RepL.isEmpty {vs : List V} {ds : List D} (r : RepL K H vs ds) : vs.isEmpty = ds.isEmpty := by cases r <;> rfl
theorem RepL.dropLast : ∀ {vs : List V} {ds : List D}, RepL K H vs ds → RepL K H vs.dropLast ds.dropLast := fun {vs ds} r => by
  rw [List.dropLast_eq_take, List.dropLast_eq_take, r.length]
  exact r.take _
end

/-! ### the state: what is read alone from here on (F), what stands (H); B and F0: at the def's entry -/
inductive Cell where
  | no | sh (d : D) | ow (d : D) (z : Option Addr)
abbrev Env := List Cell
/-- more is known; nothing that stood is changed; what is newly frozen is new -/
structure Grow (F H F' H' : Hp) : Prop where
  h : Same H H'
  f : Same F F'
  fh : Same F' H'
  nw : ∀ a o, F' a = some o → F a = some o ∨ H a = none
theorem Grow.refl {F H : Hp} (s : Same F H) : Grow F H F H := ⟨Same.refl H, Same.refl F, s, fun _ _ e => .inl e⟩
theorem Grow.trans {F H F1 H1 F2 H2 : Hp} (a : Grow F H F1 H1) (b : Grow F1 H1 F2 H2) : Grow F H F2 H2 :=
  ⟨a.h.trans b.h, a.f.trans b.f, b.fh, fun x o e => by
    rcases b.nw x o e with q | q
    · exact a.nw x o q
    · exact .inr (a.h.free q)⟩
/-- a new object, read alone from here on -/
theorem Grow.new {F H : Hp} (s : Same F H) {p : Addr} (hp : H p = none) (o : HO) : Grow F H (upd F p o) (upd H p o) := by
  have fp : F p = none := s.free hp
  refine ⟨fun b u e => ?_, fun b u e => ?_, fun b u e => ?_, fun b u e => ?_⟩
  · rw [upd_ne (ne_of_none e hp)]; exact e
  · rw [upd_ne (ne_of_none e fp)]; exact e
  · by_cases hb : b = p
    · subst hb; rw [upd_same] at e ⊢; exact e
    · rw [upd_ne hb] at e ⊢; exact s b u e
  · by_cases hb : b = p
    · subst hb; exact .inr hp
    · rw [upd_ne hb] at e; exact .inl e
/-- a new object that may still change -/
theorem Grow.own {F H : Hp} (s : Same F H) {p : Addr} (hp : H p = none) (o : HO) : Grow F H F (upd H p o) := by
  refine ⟨fun b u e => ?_, Same.refl F, fun b u e => ?_, fun _ _ e => .inl e⟩
  · rw [upd_ne (ne_of_none e hp)]; exact e
  · rw [upd_ne (ne_of_none (s b u e) hp)]; exact s b u e
/-- what stands at p that is not frozen is frozen -/
theorem Grow.freeze {F H F' H' : Hp} (g : Grow F H F' H') {p : Addr} {o : HO} (hp : H p = none) (e : H' p = some o) : Grow F H (upd F' p o) H' := by
  refine ⟨g.h, fun b u q => ?_, fun b u q => ?_, fun b u q => ?_⟩
  · by_cases hb : b = p
    · subst hb
      have := g.f b u q
      have z := g.fh b u this
      rw [e] at z
      rw [upd_same, ← z]
    · rw [upd_ne hb]; exact g.f b u q
  · by_cases hb : b = p
    · subst hb; rw [upd_same] at q; rw [← q]; exact e
    · rw [upd_ne hb] at q; exact g.fh b u q
  · by_cases hb : b = p
    · subst hb; exact .inr hp
    · rw [upd_ne hb] at q; exact g.nw b u q

/-- at p stands something that only one holds, its parts read alone -/
def Own (K : PySem.W.Frag) (F H : Hp) (p : Addr) : D → Prop
  | .lst ds => ∃ vs, H p = some (.lst vs) ∧ RepL K F vs ds
  | .dct kvs => ∃ ks, H p = some (.dK ks) ∧ RepK K F ks kvs
  | _ => False
section
variable {K : PySem.W.Frag} {F H F' H' : Hp} {p : Addr} {d : D}
theorem Own.grow (g : Grow F H F' H') (o : Own K F H p d) : Own K F' H' p d := by
  cases d with
  | lst ds => obtain ⟨vs, h, r⟩ := o; exact ⟨vs, g.h _ _ h, r.mono g.f⟩
  | dct kvs => obtain ⟨ks, h, r⟩ := o; exact ⟨ks, g.h _ _ h, r.mono g.f⟩
  | _ => exact o.elim
theorem Own.there (o : Own K F H p d) : ∃ u, H p = some u := by
  cases d with
  | lst ds => obtain ⟨vs, h, r⟩ := o; exact ⟨_, h⟩
  | dct kvs => obtain ⟨ks, h, r⟩ := o; exact ⟨_, h⟩
  | _ => exact o.elim
theorem Own.rep (s : Same F H) (o : Own K F H p d) : Rep K H (.ref p) d := by
  cases d with
  | lst ds => obtain ⟨vs, h, r⟩ := o; exact .lst h (r.mono s)
  | dct kvs => obtain ⟨ks, h, r⟩ := o; exact .dct h (r.mono s)
  | _ => exact o.elim
/-- frozen -/
theorem Own.frz (o : Own K F H p d) (hf : F p = none) : ∃ u, H p = some u ∧ Rep K (upd F p u) (.ref p) d := by
  have sm : ∀ u, Same F (upd F p u) := fun u b w e => by rw [upd_ne (ne_of_none e hf)]; exact e
  cases d with
  | lst ds => obtain ⟨vs, h, r⟩ := o; exact ⟨_, h, .lst upd_same (r.mono (sm _))⟩
  | dct kvs => obtain ⟨ks, h, r⟩ := o; exact ⟨_, h, .dct upd_same (r.mono (sm _))⟩
  | _ => exact o.elim
end

def RepC (K : PySem.W.Frag) (B F H : Hp) (v : Option V) : Cell → Prop
  | .no => True
  | .sh d => ∃ x, v = some x ∧ Rep K F x d
  | .ow d z => ∃ p, v = some (.ref p) ∧ B p = none ∧ F p = none ∧ Own K F H p d ∧ ∀ q, z = some q → p = q
structure REnv (K : PySem.W.Frag) (B F0 F H : Hp) (σ : L2.St) (ρ : Env) : Prop where
  bh : Same B H
  f0 : Same F0 F
  fh : Same F H
  fr : ∀ a o, F a = some o → F0 a = some o ∨ B a = none
  len : σ.length = ρ.length
  cell : ∀ (i : Nat) (c : Cell), ρ[i]? = some c → ∃ v, σ[i]? = some v ∧ RepC K B F H v c
  dis : ∀ (i j : Nat) (d e : D) (z y : Option Addr) (p : Addr), i ≠ j → ρ[i]? = some (.ow d z) → ρ[j]? = some (.ow e y) → σ[i]? = some (some (.ref p)) → σ[j]? ≠ some (some (.ref p))
section
variable {K : PySem.W.Frag} {B F0 F H F' H' : Hp} {σ : L2.St} {ρ : Env}
theorem RepC.grow (bh : Same B H) (g : Grow F H F' H') {v : Option V} {c : Cell} (r : RepC K B F H v c) : RepC K B F' H' v c := by
  cases c with
  | no => trivial
  | sh d => obtain ⟨x, e, r⟩ := r; exact ⟨x, e, r.mono g.f⟩
  | ow d z =>
    obtain ⟨p, e, hb, hf, o, hz⟩ := r
    refine ⟨p, e, hb, ?_, o.grow g, hz⟩
    cases q : F' p with
    | none => rfl
    | some u =>
      obtain ⟨w, hw⟩ := o.there
      rcases g.nw p u q with z | z
      · rw [hf] at z; cases z
      · rw [hw] at z; cases z
theorem REnv.grow (r : REnv K B F0 F H σ ρ) (g : Grow F H F' H') : REnv K B F0 F' H' σ ρ where
  bh := r.bh.trans g.h
  f0 := r.f0.trans g.f
  fh := g.fh
  fr := fun a o e => by
    rcases g.nw a o e with q | q
    · exact r.fr a o q
    · exact .inr (r.bh.free q)
  len := r.len
  cell := fun i c e => let ⟨v, h1, h2⟩ := r.cell i c e; ⟨v, h1, h2.grow r.bh g⟩
  dis := r.dis
theorem REnv.gr (r : REnv K B F0 F H σ ρ) : Grow F H F H := Grow.refl r.fh
end

/-- a value read alone; or one's own -/
def Bor (K : PySem.W.Frag) (F H : Hp) (v : V) (d : D) : Prop := Rep K F v d ∨ ∃ p, v = .ref p ∧ Own K F H p d
section
variable {K : PySem.W.Frag} {F H F' H' : Hp} {v : V} {d : D}
theorem Bor.grow (g : Grow F H F' H') (b : Bor K F H v d) : Bor K F' H' v d := by
  rcases b with b | ⟨p, e, o⟩
  · exact .inl (b.mono g.f)
  · exact .inr ⟨p, e, o.grow g⟩
theorem Bor.rep (s : Same F H) (b : Bor K F H v d) : Rep K H v d := by
  rcases b with b | ⟨p, rfl, o⟩
  · exact b.mono s
  · exact o.rep s
theorem Bor.lst (s : Same F H) {ds : List D} (b : Bor K F H v (.lst ds)) : ∃ a vs, v = .ref a ∧ H a = some (.lst vs) ∧ RepL K F vs ds := by
  rcases b with b | ⟨p, rfl, vs, h, r⟩
  · cases b with
    | lst h r => exact ⟨_, _, rfl, s _ _ h, r⟩
  · exact ⟨p, vs, rfl, h, r⟩
theorem Bor.tup (s : Same F H) {ds : List D} (b : Bor K F H v (.tup ds)) : ∃ a vs, v = .ref a ∧ SqT K H a vs ∧ RepL K F vs ds := by
  rcases b with b | ⟨p, rfl, o⟩
  · cases b with
    | tup h r => exact ⟨_, _, rfl, sqT_same s h, r⟩
  · exact o.elim
theorem Bor.int {i : Int} (b : Bor K F H v (.int i)) : v = .int i := by
  rcases b with b | ⟨p, rfl, o⟩
  · cases b; rfl
  · exact o.elim
theorem Bor.str {x : Str} (b : Bor K F H v (.str x)) : v = .str x := by
  rcases b with b | ⟨p, rfl, o⟩
  · cases b; rfl
  · exact o.elim
theorem Bor.bl {x : Bool} (b : Bor K F H v (.bl x)) : v = .bl x := by
  rcases b with b | ⟨p, rfl, o⟩
  · cases b; rfl
  · exact o.elim
theorem Bor.non (b : Bor K F H v .non) : v = .non := by
  rcases b with b | ⟨p, rfl, o⟩
  · cases b; rfl
  · exact o.elim
end
/-- a value with its flag: true: new, and one's own -/
def Val (K : PySem.W.Frag) (F H : Hp) (H0 : Hp) (v : V) (r : D × Bool) : Prop :=
  if r.2 = true then ∃ p, v = .ref p ∧ H0 p = none ∧ F p = none ∧ Own K F H p r.1 else Rep K F v r.1

/-! ### computations -/
structure Xn where
  cls : Addr
  fs : List (Str × D)
abbrev M (α : Type) := (α → Prop) → (Xn → Prop) → Prop
def ret {α : Type} (a : α) : M α := fun Q _ => Q a
def fail {α : Type} : M α := fun _ _ => False
def bnd {α β : Type} (m : M α) (f : α → M β) : M β := fun Q E => m (fun a => f a Q E) E
end DL

namespace DL
open PySem L2

/-! ### trees as the library's data -/
mutual
def D.py : D → Option PyData
  | .non => some .none
  | .bl b => some (.bool b)
  | .int i => some (.int i)
  | .str x => some (.str x)
  | .lst ds => (pyL ds).map .list
  | .tup ds => (pyL ds).map .tuple
  | _ => none
def pyL : List D → Option (List PyData)
  | [] => some []
  | d :: ds => match D.py d, pyL ds with
    | some p, some ps => some (p :: ps)
    | _, _ => none
end
section
variable {K : PySem.W.Frag} {H : Hp}
mutual
theorem Rep.dp : ∀ {d : D} {v : V} {p : PyData}, Rep K H v d → d.py = some p → Dp K H v p
  | .non, _, _, .non, e => by simp only [D.py, Option.some.injEq] at e; subst e; exact .non
  | .bl b, _, _, .bl _, e => by simp only [D.py, Option.some.injEq] at e; subst e; exact .bl b
  | .int i, _, _, .int _, e => by simp only [D.py, Option.some.injEq] at e; subst e; exact .int i
  | .str x, _, _, .str _, e => by simp only [D.py, Option.some.injEq] at e; subst e; exact .str x
  | .lst ds, _, _, .lst h r, e => by
    simp only [D.py] at e
    cases q : pyL ds with
    | none => rw [q] at e; cases e
    | some ps => rw [q] at e; simp only [Option.map_some, Option.some.injEq] at e; subst e; exact .lst (SqL.of h) (RepL.dp r q)
  | .tup ds, _, _, .tup h r, e => by
    simp only [D.py] at e
    cases q : pyL ds with
    | none => rw [q] at e; cases e
    | some ps => rw [q] at e; simp only [Option.map_some, Option.some.injEq] at e; subst e; exact .tup h (RepL.dp r q)
  | .dct _, _, _, _, e => by simp [D.py] at e
  | .obj _ _, _, _, _, e => by simp [D.py] at e
  | .raw _, _, _, _, e => by simp [D.py] at e
  | .gen, _, _, _, e => by simp [D.py] at e
  | .scr _, _, _, _, e => by simp [D.py] at e
theorem RepL.dp : ∀ {ds : List D} {vs : List V} {ps : List PyData}, RepL K H vs ds → pyL ds = some ps → DpAll K H vs ps
  | [], _, _, .nil, e => by simp only [pyL, Option.some.injEq] at e; subst e; exact .nil
  | d :: ds, _, _, .cons r t, e => by
    simp only [pyL] at e
    cases q : D.py d with
    | none => rw [q] at e; simp at e
    | some p =>
      cases q2 : pyL ds with
      | none => rw [q, q2] at e; simp at e
      | some ps' =>
        rw [q, q2] at e
        simp only [Option.some.injEq] at e
        subst e
        exact .cons (Rep.dp r q) (RepL.dp t q2)
end
end

/-! ### truth -/
def truM : D → M Bool
  | .non => ret false
  | .bl b => ret b
  | .int i => ret (i != 0)
  | .str x => fun Q _ => x.length ≤ sizeLine ∧ Q ((x.length : Int) != 0)
  | .lst ds => ret (!ds.isEmpty)
  | .tup ds => ret (!ds.isEmpty)
  | .dct kvs => ret (!kvs.isEmpty)
  | _ => fail
theorem RepK.isEmpty {K : PySem.W.Frag} {H : Hp} {vs : List (Key × V)} {ds : List (D × D)} (r : RepK K H vs ds) : vs.isEmpty = ds.isEmpty := by cases r <;> rfl
theorem truM_ok {K : PySem.W.Frag} {H : Hp} {v : V} {d : D} (r : Rep K H v d) {Q : Bool → Prop} {E : Xn → Prop} (h : truM d Q E) : ∃ k, TruV K v H k ∧ Q k := by
  cases r with
  | non => exact ⟨false, rfl, h⟩
  | bl b => exact ⟨b, rfl, h⟩
  | int i => exact ⟨_, rfl, h⟩
  | str x => exact ⟨_, ⟨h.1, rfl⟩, h.2⟩
  | lst h1 r1 => exact ⟨_, .inl ⟨_, SqL.of h1, rfl⟩, by rw [r1.isEmpty]; exact h⟩
  | tup h1 r1 => exact ⟨_, .inr (.inl ⟨_, h1, rfl⟩), by rw [r1.isEmpty]; exact h⟩
  | dct h1 r1 => exact ⟨_, .inr (.inr ⟨_, h1, rfl⟩), by rw [r1.isEmpty]; exact h⟩
  | raw v => exact (show False from h).elim
  | gen h1 => exact (show False from h).elim
  | scr h1 => exact (show False from h).elim

/-! ### operators -/
def binM : Operator → D → D → M (D × Bool)
  | .Add, .int i, .int j => ret (.int (i + j), false)
  | .Add, .str a, .str b => fun Q _ => a.length + b.length ≤ sizeLine ∧ Q (.str (a ++ b), false)
  | .Add, .lst xs, .lst ys => fun Q _ => xs.length + ys.length ≤ sizeLine ∧ Q (.lst (xs ++ ys), true)
  | .Add, .tup xs, .tup ys => fun Q _ => xs.length + ys.length ≤ sizeLine ∧ Q (.tup (xs ++ ys), false)
  | .Sub, .int i, .int j => ret (.int (i - j), false)
  | .Mult, .int i, .int j => fun Q _ => CMul i j ∧ Q (.int (i * j), false)
  | .Mult, .tup xs, .int k => fun Q _ => xs ≠ [] ∧ 2 ≤ k ∧ k ≤ 1000 ∧ xs.length ≤ 1000 ∧ Q (.tup (List.replicate k.toNat xs).flatten, false)
  | .Mult, .lst xs, .int k => fun Q _ => (-(2 ^ 63) ≤ k ∧ k < 2 ^ 63 ∧ xs.length * k.toNat ≤ sizeLine) ∧ Q (.lst (List.replicate k.toNat xs).flatten, true)
  | .Mult, .str x, .int k => fun Q _ => MulOk x k ∧ Q (.str (Txt.mul x k), false)
  | .FloorDiv, .int i, .int j => fun Q _ => CDiv i j ∧ Q (.int (i / j), false)
  | .Mod, .int i, .int j => fun Q _ => 0 < j ∧ Q (.int (i % j), false)
  | .Pow, .int i, .int j => fun Q _ => CPow i j ∧ Q (.int (i ^ j.toNat), false)
  | _, _, _ => fail
/-- an operation on borrowed values, by what it gives -/
def r2 (K : PySem.W.Frag) (m : D → D → M (D × Bool)) : R2 := fun x y H Q => ∃ F dx dy Q2 E, Same F H ∧ Bor K F H x dx ∧ Bor K F H y dy ∧ m dx dy Q2 E ∧
  ∀ v F' H' r, Grow F H F' H' → Val K F' H' H v r → Q2 r → Q v H'
section
variable {K : PySem.W.Frag} {F H F' H' H0 : Hp} {v : V}
theorem Val.of {d : D} (r : Rep K F v d) : Val K F H H0 v (d, false) := by
  unfold Val
  rw [if_neg (show ¬ ((d, false).2 = true) from Bool.false_ne_true)]
  exact r
theorem Val.own {d : D} {p : Addr} (h0 : H0 p = none) (hf : F p = none) (o : Own K F H p d) : Val K F H H0 (.ref p) (d, true) := by
  unfold Val
  rw [if_pos rfl]
  exact ⟨p, rfl, h0, hf, o⟩
theorem Own.mkL {p : Addr} {vs : List V} {ds : List D} (h : H p = some (.lst vs)) (r : RepL K F vs ds) : Own K F H p (.lst ds) := ⟨vs, h, r⟩
theorem RepL.rep {vs : List V} {ds : List D} (r : RepL K H vs ds) : ∀ n : Nat, RepL K H (List.replicate n vs).flatten (List.replicate n ds).flatten
  | 0 => .nil
  | n + 1 => by
    rw [List.replicate_succ, List.replicate_succ, List.flatten_cons, List.flatten_cons]
    exact r.append (RepL.rep r n)
/-- a new list of one's own -/
theorem new_own {Q : VK} {Q2 : D × Bool → Prop} {vs : List V} {ds : List D} (s : Same F H) (r : RepL K F vs ds) (q : Q2 (.lst ds, true)) (k : ∀ v F' H' r, Grow F H F' H' → Val K F' H' H v r → Q2 r → Q v H') : ∀ p, H p = none → Q (.ref p) (upd H p (.lst vs)) :=
  fun p hp => k _ F _ _ (Grow.own s hp _) (Val.own (d := .lst ds) hp (s.free hp) (Own.mkL upd_same r)) q
theorem new_tup {Q : VK} {Q2 : D × Bool → Prop} {vs : List V} {ds : List D} (s : Same F H) (r : RepL K F vs ds) (q : Q2 (.tup ds, false)) (k : ∀ v F' H' r, Grow F H F' H' → Val K F' H' H v r → Q2 r → Q v H') : ∀ p, H p = none → Q (.ref p) (upd H p (.tup vs)) :=
  fun p hp => k _ _ _ _ (Grow.new s hp _) (Val.of (.tup (SqT.of upd_same) (r.mono (Grow.new s hp _).f))) q
end
theorem op_bin {X : Cx} (op : Operator) : OpR X (binaryOp op) (r2 X.K (binM op)) := by
  intro pins s σ H x y v u Q I rx ry h
  obtain ⟨F, dx, dy, Q2, E, sm, bx, by_, h, k⟩ := h
  have same : ∀ {z : V} {d : D}, Rep X.K F z d → Q2 (d, false) → Q z H := fun r q => k _ F H _ (Grow.refl sm) (Val.of r) q
  unfold binM at h
  split at h
  · rename_i i j
    cases bx.int; cases by_.int
    exact op_add pins s σ H _ _ v u Q I rx ry ⟨_, _, rfl, rfl, same (.int _) h⟩
  · rename_i a b
    cases bx.str; cases by_.str
    exact op_add_str pins s σ H _ _ v u Q I rx ry ⟨_, _, rfl, rfl, h.1, same (.str _) h.2⟩
  · rename_i xs ys
    obtain ⟨a, vs, rfl, ha, ra⟩ := bx.lst sm
    obtain ⟨b, ws, rfl, hb, rb⟩ := by_.lst sm
    exact op_cat pins s σ H _ _ v u Q I rx ry ⟨_, _, _, _, rfl, rfl, ha, hb, by rw [ra.length, rb.length]; exact h.1, new_own sm (ra.append rb) h.2 k⟩
  · rename_i xs ys
    obtain ⟨a, vs, rfl, ha, ra⟩ := bx.tup sm
    obtain ⟨b, ws, rfl, hb, rb⟩ := by_.tup sm
    refine op_catA pins s σ H _ _ v u Q I rx ry ⟨_, _, _, _, rfl, rfl, ha, hb, by rw [ra.length, rb.length]; exact h.1, fun e => ?_, fun e e2 => ?_, fun e e2 => new_tup sm (ra.append rb) h.2 k⟩
    · subst e
      cases ra
      rcases by_ with q | ⟨_, _, o⟩
      · exact same q h.2
      · exact o.elim
    · subst e2
      cases rb
      have h2 := h.2
      rw [List.append_nil] at h2
      rcases bx with q | ⟨_, _, o⟩
      · exact same q h2
      · exact o.elim
  · rename_i i j
    cases bx.int; cases by_.int
    exact op_sub pins s σ H _ _ v u Q I rx ry ⟨_, _, rfl, rfl, same (.int _) h⟩
  · rename_i i j
    cases bx.int; cases by_.int
    exact op_mul pins s σ H _ _ v u Q I rx ry ⟨_, _, rfl, rfl, h.1, same (.int _) h.2⟩
  · rename_i xs i
    cases by_.int
    obtain ⟨a, vs, rfl, ha, ra⟩ := bx.tup sm
    obtain ⟨h1, h2, h3, h4, h5⟩ := h
    refine op_repT pins s σ H _ _ v u Q I rx ry ⟨_, _, _, rfl, rfl, ha, fun e => ?_, h2, h3, by rw [ra.length]; exact h4, new_tup sm (ra.rep _) h5 k⟩
    subst e; cases ra; exact h1 rfl
  · rename_i xs i
    cases by_.int
    obtain ⟨a, vs, rfl, ha, ra⟩ := bx.lst sm
    obtain ⟨⟨h1, h2, h3⟩, h5⟩ := h
    exact op_rep pins s σ H _ _ v u Q I rx ry ⟨_, _, _, rfl, rfl, ha, h1, h2, by rw [ra.length]; exact h3, new_own sm (ra.rep _) h5 k⟩
  · rename_i z i
    cases bx.str; cases by_.int
    obtain ⟨t, rfl⟩ := rx
    obtain ⟨t', rfl⟩ := ry
    exact PySem.SB.mul h.1 fun t'' tk => ⟨.str _, H, I.tok _, ⟨_, rfl⟩, same (.str _) h.2⟩
  · rename_i i j
    cases bx.int; cases by_.int
    exact op_fdiv pins s σ H _ _ v u Q I rx ry ⟨_, _, rfl, rfl, h.1, same (.int _) h.2⟩
  · rename_i i j
    cases bx.int; cases by_.int
    exact op_mod pins s σ H _ _ v u Q I rx ry ⟨_, _, rfl, rfl, h.1, same (.int _) h.2⟩
  · rename_i i j
    cases bx.int; cases by_.int
    exact op_pow pins s σ H _ _ v u Q I rx ry ⟨_, _, rfl, rfl, h.1, same (.int _) h.2⟩
  · exact h.elim
end DL

namespace DL
open PySem L2

/-! ### flat values -/
def fl : D → Option PyData
  | .non => some .none
  | .bl b => some (.bool b)
  | .int i => some (.int i)
  | .str x => some (.str x)
  | _ => none
def flL : List D → Option (List PyData)
  | [] => some []
  | d :: ds => match fl d, flL ds with
    | some p, some ps => some (p :: ps)
    | _, _ => none
theorem fl_py {d : D} {p : PyData} (h : fl d = some p) : d.py = some p := by
  cases d <;> simp only [fl] at h <;> first | (simp only [D.py]; exact h) | cases h
section
variable {K : PySem.W.Frag} {H : Hp}
theorem fl_flat {d : D} {v : V} {p : PyData} (r : Rep K H v d) (h : fl d = some p) : flatV v = true := by
  cases r <;> simp only [fl] at h <;> first | rfl | cases h
theorem eqV_eqv {d e : D} {v u : V} {p q : PyData} (r : Rep K H v d) (r' : Rep K H u e) (h : fl d = some p) (h' : fl e = some q) : eqV v u = PyData.eqv p q := by
  cases r <;> simp only [fl, Option.some.injEq] at h <;> first | cases h | skip
  all_goals (try subst h)
  all_goals (cases r' <;> simp only [fl, Option.some.injEq] at h' <;> first | cases h' | skip)
  all_goals (try subst h')
  all_goals (simp only [eqV, PyData.eqv])
theorem flL_flat : ∀ {ds : List D} {vs : List V} {ps : List PyData}, RepL K H vs ds → flL ds = some ps → vs.all flatV = true
  | [], _, _, .nil, _ => rfl
  | d :: ds, _, _, .cons r t, h => by
    simp only [flL] at h
    cases q : fl d with
    | none => rw [q] at h; simp at h
    | some p =>
      cases q2 : flL ds with
      | none => rw [q, q2] at h; simp at h
      | some ps' => rw [List.all_cons, fl_flat r q, flL_flat t q2]; rfl
theorem inV_any {d : D} {v : V} {p : PyData} (r : Rep K H v d) (h : fl d = some p) : ∀ {ds : List D} {vs : List V} {ps : List PyData}, RepL K H vs ds → flL ds = some ps → inV v vs = ps.any fun z => PyData.eqv z p
  | [], _, _, .nil, h' => by simp only [flL, Option.some.injEq] at h'; subst h'; rfl
  | e :: ds, _, _, .cons r' t, h' => by
    simp only [flL] at h'
    cases q : fl e with
    | none => rw [q] at h'; simp at h'
    | some p' =>
      cases q2 : flL ds with
      | none => rw [q, q2] at h'; simp at h'
      | some ps' =>
        rw [q, q2] at h'
        simp only [Option.some.injEq] at h'
        subst h'
        have ih := inV_any r h t q2
        unfold inV at ih ⊢
        rw [List.any_cons, List.any_cons, eqV_eqv r' r q h, ih]
end

/-! ### comparisons -/
def eqM (x y : D) : M Bool := fun Q _ => match fl x, fl y with
  | some p, some q => Q (PyData.eqv p q)
  | _, _ => match x.py, y.py with
    | some p, some q => SeqAt.shaped p = true ∧ SeqAt.shaped q = true ∧ Q (PyData.eqv p q)
    | _, _ => match x, y with
      | .lst xs, .lst ys => xs.length ≠ ys.length ∧ Q false
      | _, _ => False
def inStr (a b : Str) : Bool := !(Builtin.Str.occurrences b a 0 b.length 1).isEmpty
def inM (x : D) (ys : List D) : M Bool := fun Q _ => match fl x, flL ys with
  | some p, some ps => Q (ps.any fun z => PyData.eqv z p)
  | _, _ => match x.py, pyL ys with
    | some p, some ps => SeqAt.shaped p = true ∧ SeqAt.shaped (.list ps) = true ∧ Q (ps.any fun z => PyData.eqv z p)
    | _, _ => False
def isNon : D → M Bool
  | .non => ret true
  | .raw _ => fail
  | _ => ret false
def cmpM : CmpOp → D → D → M Bool
  | .Eq, x, y => eqM x y
  | .NotEq, x, y => bnd (eqM x y) fun b => ret (!b)
  | .Lt, .int i, .int j => ret (decide (i < j))
  | .LtE, .int i, .int j => ret (decide (i ≤ j))
  | .Gt, .int i, .int j => ret (decide (j < i))
  | .GtE, .int i, .int j => ret (decide (j ≤ i))
  | .Is, x, .non => isNon x
  | .IsNot, x, .non => bnd (isNon x) fun b => ret (!b)
  | .In, .str a, .str b => ret (inStr a b)
  | .NotIn, .str a, .str b => ret (!inStr a b)
  | .In, x, .tup ys => inM x ys
  | .NotIn, x, .tup ys => bnd (inM x ys) fun b => ret (!b)
  | .In, x, .lst ys => inM x ys
  | .NotIn, x, .lst ys => bnd (inM x ys) fun b => ret (!b)
  | _, _, _ => fail
def rb (K : PySem.W.Frag) (m : D → D → M Bool) : R2 := fun x y H Q => ∃ F dx dy Q2 E, Same F H ∧ Bor K F H x dx ∧ Bor K F H y dy ∧ m dx dy Q2 E ∧ ∀ b, Q2 b → Q (.bl b) H

section
variable {X : Cx}
theorem eq_ok (hu : X.A.units + 64 < cLine) {dx dy : D} {Q2 : Bool → Prop} {E : Xn → Prop} {pins : List (Addr × Obj)} {s : Shared} {σ : L2.St} {H : Hp} {x y : V} {v u : Value} {Q : VK} (I : Inv X pins σ H s) (rx : RelV x v) (ry : RelV y u)
    (r1 : Rep X.K H x dx) (r2 : Rep X.K H y dy) (h : eqM dx dy Q2 E) (k : ∀ b, Q2 b → Q (.bl b) H) : wpAny (model X.prog X.w) X.A (compareOp .Eq v u) (EP X pins σ Q) X.xe s := by
  unfold eqM at h
  split at h
  · rename_i p q e1 e2
    by_cases hs : scal x y = true
    · refine op_eq pins s σ H x y v u Q I rx ry ⟨hs, ?_⟩
      have e3 : decide (x = y) = PyData.eqv p q := by
        rw [← eqV_eqv r1 r2 e1 e2]
        cases x <;> cases y <;> first | (exact absurd hs Bool.false_ne_true) | (simp only [eqV, dec_int, dec_bl, dec_str]) | (simp only [eqV, decide_eq_false_iff_not]; first | (intro z; cases z) | skip) | skip
        all_goals first | rfl | (simp [eqV]) | skip
        all_goals (cases r1; simp [fl] at e1)
      rw [e3]
      exact k _ h
    · refine op_eqD hu pins s σ H x y v u Q I rx ry ⟨p, q, r1.dp (fl_py e1), r2.dp (fl_py e2), ?_, ?_, k _ h⟩
      · cases r1 <;> simp only [fl, Option.some.injEq] at e1 <;> first | cases e1 | skip
        all_goals first | subst e1 | skip
        all_goals first | rfl | skip
        all_goals (cases r2 <;> simp only [fl, Option.some.injEq] at e2 <;> first | cases e2 | skip)
        all_goals (exact absurd rfl hs)
      · cases r2 <;> simp only [fl, Option.some.injEq] at e2 <;> first | cases e2 | skip
        all_goals first | subst e2 | skip
        all_goals first | rfl | skip
        all_goals (cases r1 <;> simp only [fl, Option.some.injEq] at e1 <;> first | cases e1 | skip)
        all_goals (exact absurd rfl hs)
  · split at h
    · rename_i p q e1 e2
      exact op_eqD hu pins s σ H x y v u Q I rx ry ⟨p, q, r1.dp e1, r2.dp e2, h.1, h.2.1, k _ h.2.2⟩
    · split at h
      · rename_i xs ys _ _
        obtain ⟨hne, hq⟩ := h
        cases r1 with
        | lst h1 l1 =>
          cases r2 with
          | lst h2 l2 =>
            cases rx
            cases ry
            obtain ⟨its, rv, p1, _⟩ := I.list (SqL.of h1)
            obtain ⟨its2, rv2, p2, _⟩ := I.list (SqL.of h2)
            have n1 := rv.length
            have n2 := rv2.length
            have n3 := l1.length
            have n4 := l2.length
            exact SeqAt.eq_list_lengthsAt p1.isList p2.isList (by rw [bne_iff_ne, List.size_toArray, List.size_toArray]; omega) (Nat.lt_of_le_of_lt (Nat.le_add_right _ 64) hu) ⟨.bl false, H, I, rfl, k _ hq⟩
      · exact h.elim
theorem ne_ok (hu : X.A.units + 64 < cLine) {dx dy : D} {Q2 : Bool → Prop} {E : Xn → Prop} {pins : List (Addr × Obj)} {s : Shared} {σ : L2.St} {H : Hp} {x y : V} {v u : Value} {Q : VK} (I : Inv X pins σ H s) (rx : RelV x v) (ry : RelV y u)
    (r1 : Rep X.K H x dx) (r2 : Rep X.K H y dy) (h : eqM dx dy Q2 E) (k : ∀ b, Q2 b → Q (.bl (!b)) H) : wpAny (model X.prog X.w) X.A (compareOp .NotEq v u) (EP X pins σ Q) X.xe s := by
  unfold eqM at h
  split at h
  · rename_i p q e1 e2
    by_cases hs : scal x y = true
    · refine op_ne pins s σ H x y v u Q I rx ry ⟨hs, ?_⟩
      have e3 : decide (x = y) = PyData.eqv p q := by
        rw [← eqV_eqv r1 r2 e1 e2]
        cases x <;> cases y <;> first | (exact absurd hs Bool.false_ne_true) | (simp only [eqV, dec_int, dec_bl, dec_str]) | (simp only [eqV, decide_eq_false_iff_not]; first | (intro z; cases z) | skip) | skip
        all_goals first | rfl | (simp [eqV]) | skip
        all_goals (cases r1; simp [fl] at e1)
      rw [e3]
      exact k _ h
    · refine op_neD hu pins s σ H x y v u Q I rx ry ⟨p, q, r1.dp (fl_py e1), r2.dp (fl_py e2), ?_, ?_, k _ h⟩
      · cases r1 <;> simp only [fl, Option.some.injEq] at e1 <;> first | cases e1 | skip
        all_goals first | subst e1 | skip
        all_goals first | rfl | skip
        all_goals (cases r2 <;> simp only [fl, Option.some.injEq] at e2 <;> first | cases e2 | skip)
        all_goals (exact absurd rfl hs)
      · cases r2 <;> simp only [fl, Option.some.injEq] at e2 <;> first | cases e2 | skip
        all_goals first | subst e2 | skip
        all_goals first | rfl | skip
        all_goals (cases r1 <;> simp only [fl, Option.some.injEq] at e1 <;> first | cases e1 | skip)
        all_goals (exact absurd rfl hs)
  · split at h
    · rename_i p q e1 e2
      exact op_neD hu pins s σ H x y v u Q I rx ry ⟨p, q, r1.dp e1, r2.dp e2, h.1, h.2.1, k _ h.2.2⟩
    · split at h
      · rename_i xs ys _ _
        obtain ⟨hne, hq⟩ := h
        cases r1 with
        | lst h1 l1 =>
          cases r2 with
          | lst h2 l2 =>
            cases rx
            cases ry
            obtain ⟨its, rv, p1, _⟩ := I.list (SqL.of h1)
            obtain ⟨its2, rv2, p2, _⟩ := I.list (SqL.of h2)
            have n1 := rv.length
            have n2 := rv2.length
            have n3 := l1.length
            have n4 := l2.length
            exact SeqAt.RcNeAt.lists_lengths p1.isList p2.isList (by rw [bne_iff_ne, List.size_toArray, List.size_toArray]; omega) (Nat.lt_of_le_of_lt (Nat.le_add_right _ 64) hu) _ _ _ _ ⟨.bl true, H, I, rfl, k _ hq⟩
      · exact h.elim
theorem canLay_flat : ∀ {ds : List D} {ps : List PyData}, flL ds = some ps → True := fun _ => trivial
theorem in_ok (hu : X.A.units + 65 < cLine) {dx : D} {ys : List D} {Q2 : Bool → Prop} {E : Xn → Prop} {pins : List (Addr × Obj)} {s : Shared} {σ : L2.St} {F H : Hp} {x : V} {p : Addr} {ws : List V} {v u : Value} {Q : VK} (I : Inv X pins σ H s) (rx : RelV x v) (ry : RelV (.ref p) u)
    (r1 : Rep X.K H x dx) (hp : SqL X.K H p ws ∨ SqT X.K H p ws) (r2 : RepL X.K H ws ys) (neg : Bool) (h : inM dx ys Q2 E) (k : ∀ b, Q2 b → Q (.bl (if neg then !b else b)) H) :
    wpAny (model X.prog X.w) X.A (compareOp (if neg = true then .NotIn else .In) v u) (EP X pins σ Q) X.xe s := by
  unfold inM at h
  split at h
  · rename_i q qs e1 e2
    have e3 := inV_any r1 e1 r2 e2
    cases neg with
    | true => exact op_notIn_seq pins s σ H _ _ v u Q I rx ry ⟨p, ws, rfl, hp, fl_flat r1 e1, flL_flat r2 e2, by rw [e3]; exact k _ h⟩
    | false => exact op_in_seq pins s σ H _ _ v u Q I rx ry ⟨p, ws, rfl, hp, fl_flat r1 e1, flL_flat r2 e2, by rw [e3]; exact k _ h⟩
  · split at h
    · rename_i q qs e1 e2
      obtain ⟨h1, h2, h3⟩ := h
      obtain ⟨as, q1⟩ := Dp.reads I q x v (r1.dp e1) rx
      have fin := k _ h3
      rcases hp with hp | hp
      · obtain ⟨bs, q2⟩ := Dp.reads I (.list qs) (.ref p) u (.lst hp (r2.dp e2)) ry
        cases neg with
        | true => exact SeqAt.notIn_list_reads q2 q1 (SeqAt.canLay_of_shaped h2) (SeqAt.canLay_of_shaped h1) (PyProof.Rows.room_in_shaped h1 hu) ⟨.bl _, H, I, rfl, fin⟩
        | false => exact SeqAt.in_list_reads q2 q1 (SeqAt.canLay_of_shaped h2) (SeqAt.canLay_of_shaped h1) (PyProof.Rows.room_in_shaped h1 hu) ⟨.bl _, H, I, rfl, fin⟩
      · obtain ⟨bs, q2⟩ := Dp.reads I (.tuple qs) (.ref p) u (.tup hp (r2.dp e2)) ry
        have h2' : PyData.canLayAll0 qs = true := SeqAt.canLay_of_shaped h2
        cases neg with
        | true => exact SeqAt.notIn_tuple_reads q2 q1 h2' (SeqAt.canLay_of_shaped h1) (PyProof.Rows.room_in_shaped h1 hu) ⟨.bl _, H, I, rfl, fin⟩
        | false => exact SeqAt.in_tuple_reads q2 q1 h2' (SeqAt.canLay_of_shaped h1) (PyProof.Rows.room_in_shaped h1 hu) ⟨.bl _, H, I, rfl, fin⟩
    · exact h.elim
theorem isNon_ok {d : D} {x : V} {H : Hp} (r : Rep X.K H x d) {Q2 : Bool → Prop} {E : Xn → Prop} (h : isNon d Q2 E) : Q2 (decide (x = .non)) := by
  cases r <;> first | exact h | exact h.elim
theorem op_cmp (hu : X.A.units + 65 < cLine) (op : CmpOp) : OpR X (compareOp op) (rb X.K (cmpM op)) := by
  intro pins s σ H x y v u Q I rx ry h
  obtain ⟨F, dx, dy, Q2, E, sm, bx, by_, h, k⟩ := h
  have hu' : X.A.units + 64 < cLine := by omega
  unfold cmpM at h
  split at h
  · exact eq_ok hu' I rx ry (bx.rep sm) (by_.rep sm) h k
  · exact ne_ok hu' I rx ry (bx.rep sm) (by_.rep sm) h fun b q => k _ q
  · cases bx.int; cases by_.int
    exact op_lt pins s σ H _ _ v u Q I rx ry ⟨_, _, rfl, rfl, k _ h⟩
  · cases bx.int; cases by_.int
    exact op_le pins s σ H _ _ v u Q I rx ry ⟨_, _, rfl, rfl, k _ h⟩
  · cases bx.int; cases by_.int
    exact op_gt pins s σ H _ _ v u Q I rx ry ⟨_, _, rfl, rfl, k _ h⟩
  · cases bx.int; cases by_.int
    exact op_ge pins s σ H _ _ v u Q I rx ry ⟨_, _, rfl, rfl, k _ h⟩
  · cases by_.non
    exact op_isN pins s σ H _ _ v u Q I rx ry ⟨rfl, k _ (isNon_ok (bx.rep sm) h)⟩
  · cases by_.non
    exact op_notN pins s σ H _ _ v u Q I rx ry ⟨rfl, k _ (isNon_ok (Q2 := fun b => Q2 (!b)) (bx.rep sm) h)⟩
  · cases bx.str; cases by_.str
    exact op_in_str pins s σ H _ _ v u Q I rx ry ⟨_, _, rfl, rfl, k _ h⟩
  · cases bx.str; cases by_.str
    exact op_notin_str pins s σ H _ _ v u Q I rx ry ⟨_, _, rfl, rfl, k _ h⟩
  · obtain ⟨a, vs, rfl, ha, ra⟩ := by_.tup sm
    exact in_ok (neg := false) (F := F) hu I rx ry (bx.rep sm) (.inr ha) (ra.mono sm) h fun b q => k _ q
  · obtain ⟨a, vs, rfl, ha, ra⟩ := by_.tup sm
    exact in_ok (neg := true) (F := F) hu I rx ry (bx.rep sm) (.inr ha) (ra.mono sm) (Q2 := fun b => Q2 (!b)) h fun b q => k _ q
  · obtain ⟨a, vs, rfl, ha, ra⟩ := by_.lst sm
    exact in_ok (neg := false) (F := F) hu I rx ry (bx.rep sm) (.inl (SqL.of ha)) (ra.mono sm) h fun b q => k _ q
  · obtain ⟨a, vs, rfl, ha, ra⟩ := by_.lst sm
    exact in_ok (neg := true) (F := F) hu I rx ry (bx.rep sm) (.inl (SqL.of ha)) (ra.mono sm) (Q2 := fun b => Q2 (!b)) h fun b q => k _ q
  · exact h.elim
end

/-! ### places and cuts -/
def cutA {α : Type} (xs : List α) (lo hi : Option Int) : List α := (xs.drop (HT.sIx xs.length 0 lo)).take (HT.sIx xs.length xs.length hi - HT.sIx xs.length 0 lo)
def ixM : D → D → M D
  | .lst ds, .int i => fun Q _ => match atI ds i with | some d => Q d | none => False
  | .tup ds, .int i => fun Q _ => match atI ds i with | some d => Q d | none => False
  | .str z, .int i => fun Q _ => z.length ≤ sizeLine ∧ match atI z.cps.toList i with | some c => Q (.str ⟨#[c]⟩) | none => False
  | _, _ => fail
def slM : D → Option Int → Option Int → M (D × Bool)
  | .lst ds, lo, hi => ret (.lst (cutA ds lo hi), true)
  | .scr ns, lo, hi => ret (.lst ((cutA ns lo hi).map .int), true)
  | .tup ds, lo, hi => ret (.tup (cutA ds lo hi), false)
  | .str z, lo, hi => fun Q _ => z.length ≤ sizeLine ∧ Q (.str (cutS z lo hi), false)
  | _, _, _ => fail
def rd (K : PySem.W.Frag) (m : D → D → M D) : R2 := fun x y H Q => ∃ F dx dy Q2 E, Same F H ∧ Bor K F H x dx ∧ Bor K F H y dy ∧ m dx dy Q2 E ∧ ∀ v d, Rep K F v d → Q2 d → Q v H
def rsl (K : PySem.W.Frag) (m : D → Option Int → Option Int → M (D × Bool)) : V → Option Int → Option Int → Hp → VK → Prop := fun x lo hi H Q => ∃ F dx Q2 E, Same F H ∧ Bor K F H x dx ∧ m dx lo hi Q2 E ∧
  ∀ v F' H' r, Grow F H F' H' → Val K F' H' H v r → Q2 r → Q v H'
section
variable {K : PySem.W.Frag} {H : Hp}
theorem atI_rep {vs : List V} {ds : List D} (r : RepL K H vs ds) {i : Int} {d : D} (h : atI ds i = some d) : ∃ v, atI vs i = some v ∧ Rep K H v d := by
  unfold atI at h ⊢
  rw [r.length]
  cases q : ixN ds.length i with
  | none => rw [q] at h; cases h
  | some j =>
    rw [q] at h
    have h' : ds[j]? = some d := h
    obtain ⟨v, h1, h2⟩ := r.get h'
    exact ⟨v, h1, h2⟩
theorem RepL.cut {vs : List V} {ds : List D} (r : RepL K H vs ds) (lo hi : Option Int) : RepL K H (cutV vs lo hi) (cutA ds lo hi) := by
  unfold cutV cutA
  rw [r.length]
  exact (r.drop _).take _
theorem cut_whole {ds : List D} {lo hi : Option Int} (h : HT.sIx ds.length 0 lo = 0 ∧ HT.sIx ds.length ds.length hi = ds.length) : cutA ds lo hi = ds := by
  unfold cutA
  rw [h.1, h.2]
  simp
end
theorem repL_intsD {K : PySem.W.Frag} {F : Hp} (ns : List Int) : RepL K F (ns.map V.int) (ns.map D.int) := by
  induction ns with
  | nil => exact .nil
  | cons n ns ih => exact .cons (.int n) ih
theorem cut_ints (ns : List Int) (lo hi : Option Int) : cutV (ns.map V.int) lo hi = (cutA ns lo hi).map V.int := by
  unfold cutV cutA
  rw [List.length_map, List.map_take, List.map_drop]
theorem Bor.scr {K : PySem.W.Frag} {F H : Hp} {v : V} {ns : List Int} (s : Same F H) (b : Bor K F H v (.scr ns)) : ∃ a, v = .ref a ∧ SqL K H a (ns.map V.int) := by
  rcases b with b | ⟨p, rfl, o⟩
  · cases b with
    | scr h => exact ⟨_, rfl, (h.mono s).sql⟩
  · exact o.elim
theorem ix_ok {X : Cx} : IxR X (rd X.K ixM) := by
  intro value slice pins s σ H x y v u Q I rx ry h hs
  obtain ⟨F, dx, dy, Q2, E, sm, bx, by_, h, k⟩ := h
  unfold ixM at h
  split at h
  · cases by_.int
    obtain ⟨a, vs, rfl, ha, ra⟩ := bx.lst sm
    split at h
    · rename_i d e
      obtain ⟨w, h1, h2⟩ := atI_rep ra e
      exact ix_list value slice pins s σ H _ _ v u Q I rx ry ⟨_, _, _, _, rfl, rfl, SqL.of ha, h1, k _ _ h2 h⟩ hs
    · exact h.elim
  · cases by_.int
    obtain ⟨a, vs, rfl, ha, ra⟩ := bx.tup sm
    split at h
    · rename_i d e
      obtain ⟨w, h1, h2⟩ := atI_rep ra e
      exact ix_tup value slice pins s σ H _ _ v u Q I rx ry ⟨_, _, _, _, rfl, rfl, ha, h1, k _ _ h2 h⟩ hs
    · exact h.elim
  · cases by_.int
    cases bx.str
    obtain ⟨hz, h⟩ := h
    split at h
    · rename_i c e
      exact ix_str value slice pins s σ H _ _ v u Q I rx ry ⟨_, _, _, rfl, rfl, hz, e, k _ _ (.str _) h⟩ hs
    · exact h.elim
  · exact h.elim
theorem sl_ok {X : Cx} : SlR X (rsl X.K slM) := by
  intro pins s σ H x v vl vu lo hi sl Q I rx hs pl pu h
  obtain ⟨F, dx, Q2, E, sm, bx, h, k⟩ := h
  unfold slM at h
  split at h
  · obtain ⟨a, vs, rfl, ha, ra⟩ := bx.lst sm
    exact sl_list pins s σ H _ v vl vu lo hi sl Q I rx hs pl pu ⟨_, _, rfl, SqL.of ha, new_own sm (ra.cut lo hi) h k⟩
  · rename_i ns
    obtain ⟨a, rfl, ha⟩ := bx.scr sm
    refine sl_list pins s σ H _ v vl vu lo hi sl Q I rx hs pl pu ⟨_, _, rfl, ha, ?_⟩
    rw [cut_ints]
    exact new_own sm (repL_intsD _) h k
  · obtain ⟨a, vs, rfl, ha, ra⟩ := bx.tup sm
    refine sl_tupA pins s σ H _ v vl vu lo hi sl Q I rx hs pl pu ⟨_, _, rfl, ha, fun w => ?_, fun _ => new_tup sm (ra.cut lo hi) h k⟩
    rw [ra.length] at w
    have h' : Q2 (D.tup (cutA _ lo hi), false) := h
    rw [cut_whole w] at h'
    rcases bx with q | ⟨_, _, o⟩
    · exact k _ F H _ (Grow.refl sm) (Val.of q) h'
    · exact o.elim
  · cases bx.str
    exact sl_str pins s σ H _ v vl vu lo hi sl Q I rx hs pl pu ⟨_, rfl, h.1, k _ F H _ (Grow.refl sm) (Val.of (.str _)) h.2⟩
  · exact h.elim
end DL

namespace DL
open PySem L2 PySem.Spec PyProof.Rows

/-! ### defs, called where no repr is under way -/
structure FnG (P : Program) (w : World) (K : PySem.W.Frag) (mg : Str → Option Value) (base : Heap) (CX : CXT) (k : Nat) (f : Addr) (fd : FuncData) (ps : List Str) (sp : Sp) : Prop where
  len : ∀ vs H Q E, sp vs H Q E → vs.length = ps.length
  run : ∀ (A : Around) (outer : List PySem.Env) (s : Shared) (H : Hp) (args : Args) (us : List Value) (vs : List V) (Q : VK) (E : XK), Room k A → A.guards = some [] →
    Env0 P w K mg base A outer s H → BindsTo s fd args (ps.zip us) → Vals vs us → sp vs H Q E →
    codeAny (model P w) A (.call (.ref f) args) (CR CX outer P w H s Q E) s
theorem FnOk.g {P : Program} {w : World} {K : PySem.W.Frag} {mg : Str → Option Value} {base : Heap} {CX : CXT} {k : Nat} {f : Addr} {fd : FuncData} {ps : List Str} {sp : Sp} (F : FnOk P w K mg base CX k f fd ps sp) : FnG P w K mg base CX k f fd ps sp :=
  ⟨F.len, fun A outer s H args us vs Q E hr _ => F.run A outer s H args us vs Q E hr⟩
theorem FnG.imp {P : Program} {w : World} {K : PySem.W.Frag} {mg : Str → Option Value} {base : Heap} {CX : CXT} {k : Nat} {f : Addr} {fd : FuncData} {ps : List Str} {sp sp' : Sp} (F : FnG P w K mg base CX k f fd ps sp)
    (h : ∀ vs H Q E, sp' vs H Q E → sp vs H Q E) : FnG P w K mg base CX k f fd ps sp' :=
  ⟨fun vs H Q E q => F.len vs H Q E (h _ _ _ _ q), fun A outer s H args us vs Q E hr hg he hb hv hs => F.run A outer s H args us vs Q E hr hg he hb hv (h _ _ _ _ hs)⟩
section
variable {P : Program} {w : World} {K : PySem.W.Frag} {mg : Str → Option Value} {base : Heap} {CX : CXT} {x qual : Str} {st : Stmt} {f : Addr} {fd : FuncData} {N ps : List Str} {k : Nat} {sp : Sp}
/-- a def by its body -/
theorem Fun.okG (F : Fun K x qual st f fd) (S : FnScope N ps (defScope st)) (len : ∀ vs H Q E, sp vs H Q E → vs.length = ps.length)
    (body : ∀ (cdv : Value) (A : Around) (outer : List PySem.Env) (s : Shared) (H : Hp) (vs : List V) (Q : VK) (E : XK), Room k (A.deeper (envOfC qual (defScope st) s.heap.objs.size f cdv)) → A.guards = some [] → sp vs H Q E →
      ∃ t, PSs (cxOf CX P w K mg base N qual (defScope st) f cdv A outer s H E) (defBody st) t ∧ t { nx := fun _ H' => Q .non H', rt := Q } (start N vs) H) :
    FnG P w K mg base CX (k + 1) f fd ps sp := by
  obtain ⟨oc, od, kV, doc, pm, an, cdv, ct, osl, rfl, lk, hcd⟩ := F.ex
  refine ⟨len, ?_⟩
  intro A outer s H args us vs Q E room gd e0 hb rv want
  have many := len _ _ _ _ want
  have stays : ∀ b o, base.get? b = some o → s.heap.get? b = some o := fun b o e => (e0.bs b o e).1
  have KX := e0.mod.kin.keeps stays
  have lim := e0.mod.nolimit.keeps stays
  have kinds : ∀ y ∈ ps.zip us, (defScope st).names.lookup y.1 = some .local ∨ ((defScope st).names.lookup y.1 = some .cell ∧ ((cellsFrom (s.heap.objs.size + 1) (defScope st).names []).lookup y.1).isSome = true) := by
    rintro ⟨n, v⟩ hy
    exact (S.par n (List.of_mem_zip hy).1).imp id fun q => ⟨q, PySem.W.cellsFrom_some _ _ _ (.inl q)⟩
  refine codeAny_call_function room.depth (KX _ _ lk) rfl S.co S.gen rfl (PySem.W.codeRec_of KX hcd) (hb _ _ _ _ ?_)
  refine wpAny_newFunctionEnv_cells S.kind kinds ?_
  intro env he s1 x
  subst he
  refine ⟨lim.keeps x.toInCall.keep, codeAny_func ?_⟩
  obtain ⟨t, ht, hq⟩ := body cdv A outer s H vs Q E (room.deeper _) gd want
  have I := inv_start (CX := CX) (E := E) S room.hd e0 many rv x
  refine wpAny_mono (ht.run [] s1 (start N vs) H _ I hq) ?_ fun e s' hs => hs
  intro fl s' hs
  cases fl with
  | ret u =>
    obtain ⟨v, σ', H', J, r', q⟩ := hs
    exact ⟨v, H', J.os, J.bare, J.base, J.hok, r', q⟩
  | next =>
    obtain ⟨σ', H', J, q⟩ := hs
    exact ⟨V.non, H', J.os, J.bare, J.base, J.hok, rfl, q⟩
  | brk => obtain ⟨_, _, _, q⟩ := hs; exact q.elim
  | cont => obtain ⟨_, _, _, q⟩ := hs; exact q.elim
end

section
variable {X : Cx} {CX : CXT} {k : Nat} {f : Addr} {fd : FuncData} {ps ks : List Str} {sp : Sp} {dvs : List V} {ds : List Value} {E : XK} {x : Str} {p pos : Pos} {e : Expr} {es : List Expr} {kws : List Keyword} {t tk : TA}
theorem runG {pins : List (Addr × Obj)} {σ : L2.St} {H : Hp} {s : Shared} {Q : VK} {us ws : List Value} {vs : List V} {args : Args} (F : FnG X.prog X.w X.K X.mg X.base CX k f fd ps sp) (hr : Room k X.A) (gd : X.A.guards = some [])
    (hb : BindsTo s fd args (ps.zip us)) (hx : Passes CX X E) (I : Inv X pins σ H s) (r : Vals vs us) (h : sp vs H Q E) : wpAny (model X.prog X.w) X.A (call (.ref f) args.pos args.kw) (EP X pins σ Q) X.xe s := by
  refine wpAny_call (codeAny_mono (F.run X.A X.stack s H args us vs Q E hr gd I.env0 hb r h) ?_)
  intro r s' hq
  rcases r with e | fl
  · exact hx pins σ H s e s' I hq
  · cases fl with
    | ret u => exact I.after hq
    | next => exact hq.elim
    | brk => exact hq.elim
    | cont => exact hq.elim
/-- f(e, ..) -/
theorem pe_callG (F : FnG X.prog X.w X.K X.mg X.base CX k f fd ps sp) (hr : Room k X.A) (gd : X.A.guards = some []) (hg : Gl X x) (hm : X.mg x = some (.ref f)) (hk : PySem.W.keepIn X.K (.ref f) = true) (hb : Binds X.K fd ps ds) (hd : Vals dvs ds) (hx : Passes CX X E)
    (ha : PA X (e :: es) t) (hdb : (x == ("__debug__" : Str)) = false) (he : starEach (e :: es) X.env = (false, eval e X.env) :: starEach es X.env) (hpl : (backTo pos (starEach es X.env)).any (·.1) = false) :
    PE X (.Call (.Name x p) (e :: es) [] pos) (tCall sp dvs E t) := by
  refine ⟨fun pins s σ H Q I h => wpAny_Call_Name_kw (ld_glob I hg hm ?_ hdb)⟩
  refine PySem.W.callWith_K (h₀ := X.base) I.ok.mod.kin hk (thn (ha.run pos pins s σ H _ I h) ?_) he hpl
  rintro us s1 ⟨vs, H1, I1, r, q⟩
  have r2 : Vals (vs ++ dvs) (us ++ ds) := r.append hd
  have hl : (us ++ ds).length = ps.length := by rw [← r2.length]; exact F.len _ _ _ _ q
  exact ⟨I1.kIn, runG (args := ⟨us, []⟩) (ws := []) F hr gd (hb s1 us I1.kIn hl) hx I1 r2 q⟩
theorem pe_callG0 (F : FnG X.prog X.w X.K X.mg X.base CX k f fd ps sp) (hr : Room k X.A) (gd : X.A.guards = some []) (hg : Gl X x) (hm : X.mg x = some (.ref f)) (hk : PySem.W.keepIn X.K (.ref f) = true) (hb : Binds X.K fd ps ds) (hd : Vals dvs ds) (hx : Passes CX X E)
    (hdb : (x == ("__debug__" : Str)) = false) : PE X (.Call (.Name x p) [] [] pos) (tCall sp dvs E tNil) := by
  refine ⟨fun pins s σ H Q I h => wpAny_Call_Name_kw (ld_glob I hg hm ?_ hdb)⟩
  have h' : sp ([] ++ dvs) H Q E := h
  have r2 : Vals ([] ++ dvs) ([] ++ ds) := Vals.append .nil hd
  have hl : ([] ++ ds).length = ps.length := by rw [← r2.length]; exact F.len _ _ _ _ h'
  exact PySem.W.callWith_K0 I.kIn hk (runG (args := ⟨[], []⟩) (ws := []) F hr gd (hb s [] I.kIn hl) hx I r2 h')
/-- f(e, .., k = v, ..) -/
theorem pe_callGK {g : List Value → List Value → List Value} {gV : List V → List V → List V} (F : FnG X.prog X.w X.K X.mg X.base CX k f fd ps sp) (hr : Room k X.A) (gd : X.A.guards = some []) (hg : Gl X x) (hm : X.mg x = some (.ref f))
    (hk : PySem.W.keepIn X.K (.ref f) = true) (hb : KBinds X.K fd ps ks g gV) (hx : Passes CX X E)
    (ha : PA X (e :: es) t) (hkw : PK X kws tk) (hall : (backToKw pos (keywordEach kws X.env)).all (·.1.isSome) = true) (hks : (backToKw pos (keywordEach kws X.env)).filterMap (·.1) = ks)
    (hdb : (x == ("__debug__" : Str)) = false) (he : starEach (e :: es) X.env = (false, eval e X.env) :: starEach es X.env)
    (hpl : ((backTo pos (starEach (e :: es) X.env)).any (·.1) || (backToKw pos (keywordEach kws X.env)).any (·.1.isNone)) = false) :
    PE X (.Call (.Name x p) (e :: es) kws pos) (tCallK sp gV E t tk) := by
  refine ⟨fun pins s σ H Q I h => wpAny_Call_Name_kw (ld_glob I hg hm ?_ hdb)⟩
  refine PySem.W.callWith_KW (h₀ := X.base) I.ok.mod.kin hk hall (thn (ha.run pos pins s σ H _ I h) ?_) hpl he
  rintro us s1 ⟨vs, H1, I1, r, q⟩
  refine thn (hkw.run pos pins s1 σ H1 _ I1 q) ?_
  rintro ws s2 ⟨zs, H2, I2, rz, q2⟩
  have r2 := hb.rel r rz
  have hl : (g us ws).length = ps.length := by rw [← r2.length]; exact F.len _ _ _ _ q2
  refine ⟨I2.kIn, ?_⟩
  rw [hks]
  exact runG (args := ⟨us, ks.zip ws⟩) (ws := []) F hr gd (hb.to s2 us ws I2.kIn hl) hx I2 r2 q2
end

/-! ### the law's end -/
theorem law_callG {P : Program} {w : World} {K : PySem.W.Frag} {mg mb : Str → Option Value} {k : Nat} {fa a : Addr} {fd : FuncData} {x : Str} {sp : Sp} {s1 : Shared} {vs : List Value} {ns : List Int}
    (KX : K.In s1.heap) (hns : s1.heap.Ns mainGlobals mg) (hb : s1.heap.Ns builtinsNs mb) (hbb : ∀ x : Str, x ≠ "__name__" → mb x = bootBuiltins x) (hlim : s1.heap.NoLimit) (hgn : s1.gens = #[])
    (ha : s1.heap.get? a = some { cls := .type "list", data := .seq vs.toArray }) (hi : IntsAre vs ns) (hl : ns.length ≤ sizeLine) (hr : Room k callerA)
    (F : ∀ base : Heap, K.In base → base.Ns mainGlobals mg → FnG P w K mg base CX0 k fa fd [x] sp) (hbind : ∀ (s : Shared) (u : Value), BindsTo s fd ⟨[u], []⟩ [(x, u)])
    (hsp : ∀ H : Hp, Only H → SqL K H a (ns.map V.int) → sp [.ref a] H (fun v _ => v = .bl true) fun _ _ _ => False) :
    codeAny (model P w) callerA (.call (.ref fa) ⟨[.ref a], []⟩) (fun r s' => r = .ok (.ret (.bool true)) ∧ OldK s1.heap s'.heap ∧ s'.os = s1.os ∧ AllBare s'.gens) s1 := by
  have rv := vals_ints hi
  have many := hi.length
  have core : ∀ H : Hp, Only H → SqL K H a (ns.map V.int) → HOk P w H s1.heap → (∀ b, H b ≠ none → b = a) → (H a ≠ none → K.lookup a = none) →
      codeAny (model P w) callerA (.call (.ref fa) ⟨[.ref a], []⟩) (fun r s' => r = .ok (.ret (.bool true)) ∧ OldK s1.heap s'.heap ∧ s'.os = s1.os ∧ AllBare s'.gens) s1 := by
    intro H only seq ok hA hK
    have kept : ∀ {b : Addr} {o : Obj}, s1.heap.get? b = some o → H b = none → (hidT s1.heap H).get? b = some o := fun e n => hidT_get e n
    have dictFree : ∀ {b : Addr} {o : Obj} {es : Array DictEntry} {ep : Nat}, s1.heap.get? b = some o → o.data = .dict es ep → H b = none := by
      intro b o es ep e d
      cases q : H b with
      | none => rfl
      | some u =>
        have e' : b = a := hA b (by rw [q]; simp)
        subst e'
        rw [ha] at e
        cases e
        exact nomatch d
    have nsK : ∀ {b : Addr} {m : Str → Option Value}, s1.heap.Ns b m → (hidT s1.heap H).Ns b m := by
      rintro b m ⟨o, es, ep, e, d, r⟩
      exact ⟨o, es, ep, kept e (dictFree e d), d, r⟩
    have hKb : K.In (hidT s1.heap H) := by
      intro b o e
      refine kept (KX b o e) ?_
      cases q : H b with
      | none => rfl
      | some u =>
        have e' : b = a := hA b (by rw [q]; simp)
        subst e'
        rw [hK (by rw [q]; simp)] at e
        cases e
    obtain ⟨mc, n1, n2⟩ := hlim
    have M : Mod K mg (hidT s1.heap H) := ⟨hKb, nsK hns, ⟨mb, nsK hb, hbb⟩, mc, nsK n1, n2⟩
    have e0 : Env0 P w K mg (hidT s1.heap H) callerA [] s1 H := ⟨rfl, M, fun b o e => of_hidT e, Nat.le_of_eq (hidT_size _ _), trivial, fun b z => (by cases z), ok, .of_eq hgn⟩
    refine codeAny_mono ((F _ hKb (nsK hns)).run callerA [] s1 H ⟨[.ref a], []⟩ [.ref a] [.ref a] _ _ hr rfl e0 (hbind s1 (.ref a)) (.cons rfl .nil) (hsp H only seq)) ?_
    intro r s' h
    rcases r with e | fl
    · exact (show False from h).elim
    · cases fl with
      | next => exact h.elim
      | brk => exact h.elim
      | cont => exact h.elim
      | ret u =>
        obtain ⟨v, H', os, bare, un, ok', r', q⟩ := h
        obtain rfl : v = V.bl true := q
        obtain rfl : u = Value.bool true := r'
        refine ⟨rfl, OldK.of_keep ?_, os, bare⟩
        intro b o e
        cases q : H b with
        | none => exact un.keep b o e q (fun z => by cases z) (fun z => by cases z)
        | some u =>
          rcases only b with z | ⟨ob, xs, z⟩
          · rw [q] at z; cases z
          · have e1 := (ok b _ z).1
            have e2 := (ok' b _ (un.frzs b ob _ z)).1
            rw [e] at e1
            cases e1
            exact e2
  cases hk : K.lookup a with
  | some o =>
    have e := KX a o hk
    rw [ha] at e
    cases e
    exact core (fun _ => none) (fun _ => .inl rfl) (.inr ⟨_, vs.toArray, _, hk, rfl, rfl, rfl, by rw [List.size_toArray, many]; exact hl, by simpa using rv⟩)
      (fun b u z => nomatch z) (fun b z => (z rfl).elim) fun z => (z rfl).elim
  | none =>
    let ob : Obj := { cls := .type "list", data := .seq vs.toArray }
    refine core (fun b => if b = a then some (.frz ob (.lst (ns.map V.int))) else none) (fun b => ?_) (.inl (.inr ⟨ob, if_pos rfl⟩)) (fun b u z => ?_) (fun b z => ?_) fun _ => hk
    · by_cases hb : b = a
      · exact .inr ⟨_, _, if_pos hb⟩
      · exact .inl (if_neg hb)
    · by_cases hb : b = a
      · obtain rfl : _ = u := Option.some.inj ((if_pos hb).symm.trans z)
        subst hb
        exact ⟨ha, by rw [List.length_map]; exact hl, vs, _, rv, ha⟩
      · exact nomatch (if_neg hb).symm.trans z
    · by_cases hb : b = a
      · exact hb
      · exact (z (if_neg hb)).elim
theorem walkG {l : PySem.W.OpenLaw} {n k : Nat} {q : Program} {loose : List Str} {XP : (Str → Option Value) → Heap → Prop} {YP : World → Heap → Prop} {d : DefRec} {K : Params → PySem.W.Frag} {sp : PySem.W.Frag → Sp} {x : Str}
    (hn : l.most = some n) (hn2 : n ≤ sizeLine) (hdf : d.params.defaults = []) (hr : Room k callerA) (hY : ∀ (w : World) (h : Heap), YP w h → (K w.params).In h)
    (F : ∀ (w : World) (mg : Str → Option Value) (fa : Addr) (h : Heap), (K w.params).In h → h.Ns mainGlobals mg → mg d.name = some (.ref fa) →
      ∃ fd : FuncData, (∀ (s : Shared) (u : Value), BindsTo s fd ⟨[u], []⟩ [(x, u)]) ∧ ∀ base : Heap, (K w.params).In base → base.Ns mainGlobals mg → FnG l.prog w (K w.params) mg base CX0 k fa fd [x] (sp (K w.params)))
    (hsp : ∀ (K : PySem.W.Frag) (H : Hp) (a : Addr) (ns : List Int), ns.length ≤ n → Only H → SqL K H a (ns.map V.int) → sp K [.ref a] H (fun v _ => v = .bl true) fun _ _ _ => False) :
    PySem.W.WalkO q loose XP YP l.row.toRowW d [] (fun f vs => PySem.call f vs) := by
  refine Att.attach_call hn hdf ?_
  intro w s₀ s₁ mg mb fa o pm cd doc a vs ns G Y ho hd hcd hmg hobj hints hlen hg
  have KX := hY w _ Y
  obtain ⟨fd, hb, hF⟩ := F w mg fa _ KX G.T.g hmg
  exact law_callG KX G.T.g G.T.b G.T.builtins G.T.nolimit hg hobj hints (Nat.le_trans hlen hn2) hr hF hb fun H only seq => hsp _ H a ns hlen only seq
end DL

namespace DL
open PySem L2

abbrev CV := Env → M (D × Bool)
abbrev CB := Env → M D
abbrev CT := Env → M Bool
abbrev CL := Env → M (List D)

/-! ### a computation as a reading -/
def rdV (K : PySem.W.Frag) (E : Xn → Prop) (c : CV) : TE := fun σ H Q' => ∃ B F0 F ρ Q, REnv K B F0 F H σ ρ ∧ c ρ Q E ∧ ∀ v H' F' r, Grow F H F' H' → Val K F' H' H v r → Q r → Q' v H'
def rdB (K : PySem.W.Frag) (E : Xn → Prop) (c : CB) : TE := fun σ H Q' => ∃ B F0 F ρ Q, REnv K B F0 F H σ ρ ∧ c ρ Q E ∧ ∀ v H' F' d, Grow F H F' H' → Bor K F' H' v d → Q d → Q' v H'
def rdF (K : PySem.W.Frag) (E : Xn → Prop) (c : CB) : TE := fun σ H Q' => ∃ B F0 F ρ Q, REnv K B F0 F H σ ρ ∧ c ρ Q E ∧ ∀ v H' F' d, Grow F H F' H' → Rep K F' v d → Q d → Q' v H'
def rdT (K : PySem.W.Frag) (E : Xn → Prop) (c : CT) : TT := fun σ H Q' => ∃ B F0 F ρ Q, REnv K B F0 F H σ ρ ∧ c ρ Q E ∧ ∀ b H' F', Grow F H F' H' → Q b → Q' b H'
def rdL (K : PySem.W.Frag) (E : Xn → Prop) (n : Nat) (c : CL) : TA := fun σ H Q' => ∃ B F0 F ρ Q, REnv K B F0 F H σ ρ ∧ c ρ Q E ∧ ∀ vs H' F' ds, Grow F H F' H' → RepL K F' vs ds → vs.length = n → Q ds → Q' vs H'
inductive BorL (K : PySem.W.Frag) (F H : Hp) : List V → List D → Prop
  | nil : BorL K F H [] []
  | cons {v : V} {d : D} {vs : List V} {ds : List D} : Bor K F H v d → BorL K F H vs ds → BorL K F H (v :: vs) (d :: ds)
theorem BorL.grow {K : PySem.W.Frag} {F H F' H' : Hp} (g : Grow F H F' H') : ∀ {vs : List V} {ds : List D}, BorL K F H vs ds → BorL K F' H' vs ds
  | _, _, .nil => .nil
  | _, _, .cons r t => .cons (r.grow g) (BorL.grow g t)
def rdM (K : PySem.W.Frag) (E : Xn → Prop) (c : CL) : TA := fun σ H Q' => ∃ B F0 F ρ Q, REnv K B F0 F H σ ρ ∧ c ρ Q E ∧ ∀ vs H' F' ds, Grow F H F' H' → BorL K F' H' vs ds → Q ds → Q' vs H'

end DL
namespace L2
open PySem
theorem PE.imp {X : Cx} {e : Expr} {t t' : TE} (h : PE X e t) (i : ∀ σ H Q, t' σ H Q → t σ H Q) : PE X e t' := ⟨fun pins s σ H Q I hw => h.run pins s σ H Q I (i σ H Q hw)⟩
theorem PT.imp {X : Cx} {e : Expr} {t t' : TT} (h : PT X e t) (i : ∀ σ H Q, t' σ H Q → t σ H Q) : PT X e t' := ⟨fun pins s σ H Q I hw => h.run pins s σ H Q I (i σ H Q hw)⟩
theorem PW.imp {X : Cx} {e : Expr} {t t' : TT} (h : PW X e t) (i : ∀ σ H Q, t' σ H Q → t σ H Q) : PW X e t' := ⟨fun wh pins s σ H Q I hw => h.run wh pins s σ H Q I (i σ H Q hw)⟩
theorem PA.imp {X : Cx} {es : List Expr} {t t' : TA} (h : PA X es t) (i : ∀ σ H Q, t' σ H Q → t σ H Q) : PA X es t' := ⟨fun pos pins s σ H Q I hw => h.run pos pins s σ H Q I (i σ H Q hw)⟩
theorem PO.imp {X : Cx} {eo : Option Expr} {t t' : TO} (h : PO X eo t) (i : ∀ σ H Q, t' σ H Q → t σ H Q) : PO X eo t' := ⟨fun pins s σ H Q I hw => h.run pins s σ H Q I (i σ H Q hw)⟩
end L2
namespace DL
open PySem L2

/-- one's own is given away -/
def frz (c : CV) : CB := fun ρ => bnd (c ρ) fun r => ret r.1
theorem Val.bor {K : PySem.W.Frag} {F H H0 : Hp} {v : V} {r : D × Bool} (h : Val K F H H0 v r) : Bor K F H v r.1 := by
  unfold Val at h
  split at h
  · obtain ⟨p, rfl, _, _, o⟩ := h
    exact .inr ⟨p, rfl, o⟩
  · exact .inl h
theorem Val.frz {K : PySem.W.Frag} {F H F' H' : Hp} {v : V} {r : D × Bool} (g : Grow F H F' H') (h : Val K F' H' H v r) : ∃ F'', Grow F H F'' H' ∧ Rep K F'' v r.1 := by
  unfold Val at h
  split at h
  · obtain ⟨p, rfl, h0, hf, o⟩ := h
    obtain ⟨u, e, q⟩ := o.frz hf
    exact ⟨_, g.freeze h0 e, q⟩
  · exact ⟨F', g, h⟩
section
variable {X : Cx} {E : Xn → Prop} {e a b c3 : Expr} {c ca cb cc : CV} {xa xb xc : CB} {ta tb : CT} {es : List Expr} {cl : CL} {pos : Pos}
theorem PE.toF (h : PE X e (rdV X.K E c)) : PE X e (rdF X.K E (frz c)) := h.imp fun σ H Q' ⟨B, F0, F, ρ, Q, r, h, k⟩ =>
  ⟨B, F0, F, ρ, _, r, h, fun v H' F' z g w q => by
    obtain ⟨F'', g', r'⟩ := w.frz g
    exact k v H' F'' z.1 g' r' q⟩
theorem PE.toB (h : PE X e (rdV X.K E c)) : PE X e (rdB X.K E (frz c)) := h.imp fun σ H Q' ⟨B, F0, F, ρ, Q, r, h, k⟩ =>
  ⟨B, F0, F, ρ, _, r, h, fun v H' F' z g w q => k v H' F' z.1 g w.bor q⟩
theorem PE.FtoB (h : PE X e (rdF X.K E xa)) : PE X e (rdB X.K E xa) := h.imp fun σ H Q' ⟨B, F0, F, ρ, Q, r, h, k⟩ =>
  ⟨B, F0, F, ρ, _, r, h, fun v H' F' z g w q => k v H' F' z g (.inl w) q⟩
theorem PE.FtoV (h : PE X e (rdF X.K E xa)) : PE X e (rdV X.K E fun ρ => bnd (xa ρ) fun d => ret (d, false)) := h.imp fun σ H Q' ⟨B, F0, F, ρ, Q, r, h, k⟩ =>
  ⟨B, F0, F, ρ, _, r, h, fun v H' F' z g w q => k v H' F' (z, false) g (Val.of w) q⟩

/-! ### names, constants -/
def cC (d : D) : CV := fun _ => ret (d, false)
def cVar (i : Nat) : CV := fun ρ => match ρ[i]? with
  | some (.sh d) => ret (d, false)
  | _ => fail
def bVar (i : Nat) : CB := fun ρ => match ρ[i]? with
  | some (.sh d) => ret d
  | some (.ow d _) => ret d
  | _ => fail
theorem re_const {j : Nat} {d : D} {k : Const} (h : PE X (.Constant k j pos) (tC v)) (r : ∀ F, Rep X.K F v d) : PE X (.Constant k j pos) (rdV X.K E (cC d)) := h.imp fun σ H Q' ⟨B, F0, F, ρ, Q, re, h, k⟩ =>
  k v H F (d, false) re.gr (Val.of (r F)) h
theorem re_var {i : Nat} {x : Str} (hN : X.N[i]? = some x) (hv : Vis X.env.scope x) (hd : (x == ("__debug__" : Str)) = false) (hcd : (x == ("__classdict__" : Str)) = false) : PE X (.Name x pos) (rdV X.K E (cVar i)) :=
  (pe_var hN hv hd hcd).imp fun σ H Q' ⟨B, F0, F, ρ, Q, re, h, k⟩ => by
    unfold cVar at h
    cases e : ρ[i]? with
    | none => rw [e] at h; exact (show False from h).elim
    | some cell =>
      rw [e] at h
      cases cell with
      | no => exact (show False from h).elim
      | ow d z => exact (show False from h).elim
      | sh d =>
        obtain ⟨v, h1, x, rfl, h2⟩ := re.cell i _ e
        exact ⟨x, h1, k x H F (d, false) re.gr (Val.of h2) h⟩
theorem re_bvar {i : Nat} {x : Str} (hN : X.N[i]? = some x) (hv : Vis X.env.scope x) (hd : (x == ("__debug__" : Str)) = false) (hcd : (x == ("__classdict__" : Str)) = false) : PE X (.Name x pos) (rdB X.K E (bVar i)) :=
  (pe_var hN hv hd hcd).imp fun σ H Q' ⟨B, F0, F, ρ, Q, re, h, k⟩ => by
    unfold bVar at h
    cases e : ρ[i]? with
    | none => rw [e] at h; exact (show False from h).elim
    | some cell =>
      rw [e] at h
      cases cell with
      | no => exact (show False from h).elim
      | sh d =>
        obtain ⟨v, h1, x, rfl, h2⟩ := re.cell i _ e
        exact ⟨x, h1, k x H F d re.gr (.inl h2) h⟩
      | ow d z =>
        obtain ⟨v, h1, p, rfl, _, _, h2, _⟩ := re.cell i _ e
        exact ⟨_, h1, k _ H F d re.gr (.inr ⟨p, rfl, h2⟩) h⟩

end
theorem Val.back {K : PySem.W.Frag} {F H F' H' F2 H2 : Hp} {v : V} {r : D × Bool} (g : Grow F H F' H') (h : Val K F2 H2 H' v r) : Val K F2 H2 H v r := by
  unfold Val at h ⊢
  split at h
  · rename_i hr
    rw [if_pos hr]
    obtain ⟨p, e, h0, hf, o⟩ := h
    exact ⟨p, e, g.h.free h0, hf, o⟩
  · rename_i hr
    rw [if_neg hr]
    exact h
/-- the value behind more that has grown -/
theorem Val.grow {K : PySem.W.Frag} {F H F' H' H0 : Hp} {v : V} {r : D × Bool} (g : Grow F H F' H') (h : Val K F H H0 v r) : Val K F' H' H0 v r := by
  unfold Val at h ⊢
  split at h
  · rename_i hr
    rw [if_pos hr]
    obtain ⟨p, e, h0, hf, o⟩ := h
    refine ⟨p, e, h0, ?_, o.grow g⟩
    cases q : F' p with
    | none => rfl
    | some u =>
      obtain ⟨w, hw⟩ := o.there
      rcases g.nw p u q with z | z
      · rw [hf] at z; cases z
      · rw [hw] at z; cases z
  · rename_i hr
    rw [if_neg hr]
    exact h.mono g.f
section
variable {X : Cx} {E : Xn → Prop} {e a b c3 : Expr} {c ca cb cc : CV} {xa xb xc : CB} {ta tb : CT} {es : List Expr} {cl : CL} {pos : Pos}
/-! ### operators -/
def cBin (op : Operator) (a b : CB) : CV := fun ρ => bnd (a ρ) fun x => bnd (b ρ) fun y => binM op x y
theorem re_bin {op : Operator} (ha : PE X a (rdB X.K E xa)) (hb : PE X b (rdB X.K E xb)) : PE X (.BinOp a op b pos) (rdV X.K E (cBin op xa xb)) :=
  (pe_op (op_bin op) ha hb).imp fun σ H Q' ⟨B, F0, F, ρ, Q, re, h, k⟩ =>
    ⟨B, F0, F, ρ, _, re, h, fun v H1 F1 d g1 b1 h1 => ⟨B, F0, F1, ρ, _, re.grow g1, h1, fun u H2 F2 d2 g2 b2 h2 =>
      ⟨F2, d, d2, Q, E, g2.fh, b1.grow g2, b2, h2, fun w F3 H3 r g3 v3 q => k w H3 F3 r ((g1.trans g2).trans g3) (v3.back (g1.trans g2)) q⟩⟩⟩
def cNeg (a : CB) : CV := fun ρ => bnd (a ρ) fun x => match x with
  | .int i => ret (.int (-i), false)
  | _ => fail
theorem re_neg (ha : PE X a (rdB X.K E xa)) : PE X (.UnaryOp .USub a pos) (rdV X.K E (cNeg xa)) :=
  (pe_un un_neg ha).imp fun σ H Q' ⟨B, F0, F, ρ, Q, re, h, k⟩ => ⟨B, F0, F, ρ, _, re, h, fun v H1 F1 d g1 b1 h1 => by
    cases d with
    | int i =>
      cases b1.int
      exact ⟨i, rfl, k _ H1 F1 (.int (-i), false) g1 (Val.of (.int _)) h1⟩
    | _ => exact h1.elim⟩
def cNot (a : CB) : CV := fun ρ => bnd (a ρ) fun x => bnd (truM x) fun k => ret (.bl (!k), false)
theorem re_not (ha : PE X a (rdB X.K E xa)) : PE X (.UnaryOp .Not a pos) (rdV X.K E (cNot xa)) :=
  (pe_notT ha).imp fun σ H Q' ⟨B, F0, F, ρ, Q, re, h, k⟩ => ⟨B, F0, F, ρ, _, re, h, fun v H1 F1 d g1 b1 h1 => by
    obtain ⟨b, t, q⟩ := truM_ok (b1.rep g1.fh) h1
    exact ⟨b, t, k _ H1 F1 (.bl (!b), false) g1 (Val.of (.bl _)) q⟩⟩
def cAnd (a b : CV) : CV := fun ρ => bnd (a ρ) fun r => bnd (truM r.1) fun k => if k = true then b ρ else ret r
def cOr (a b : CV) : CV := fun ρ => bnd (a ρ) fun r => bnd (truM r.1) fun k => if k = true then ret r else b ρ
theorem re_and {rest : List Expr} (ha : PE X a (rdV X.K E ca)) (hb : PE X (.BoolOp .And (b :: rest) pos) (rdV X.K E cb)) : PE X (.BoolOp .And (a :: b :: rest) pos) (rdV X.K E (cAnd ca cb)) :=
  (pe_andT ha hb).imp fun σ H Q' ⟨B, F0, F, ρ, Q, re, h, k⟩ => ⟨B, F0, F, ρ, _, re, h, fun v H1 F1 r g1 v1 h1 => by
    obtain ⟨t, tr, q⟩ := truM_ok (v1.bor.rep g1.fh) h1
    refine ⟨t, tr, ?_⟩
    cases t with
    | true => exact ⟨B, F0, F1, ρ, Q, re.grow g1, q, fun w H2 F2 r2 g2 v2 q2 => k w H2 F2 r2 (g1.trans g2) (v2.back g1) q2⟩
    | false => exact k v H1 F1 r g1 v1 q⟩
theorem re_or {rest : List Expr} (ha : PE X a (rdV X.K E ca)) (hb : PE X (.BoolOp .Or (b :: rest) pos) (rdV X.K E cb)) : PE X (.BoolOp .Or (a :: b :: rest) pos) (rdV X.K E (cOr ca cb)) :=
  (pe_orT ha hb).imp fun σ H Q' ⟨B, F0, F, ρ, Q, re, h, k⟩ => ⟨B, F0, F, ρ, _, re, h, fun v H1 F1 r g1 v1 h1 => by
    obtain ⟨t, tr, q⟩ := truM_ok (v1.bor.rep g1.fh) h1
    refine ⟨t, tr, ?_⟩
    cases t with
    | false => exact ⟨B, F0, F1, ρ, Q, re.grow g1, q, fun w H2 F2 r2 g2 v2 q2 => k w H2 F2 r2 (g1.trans g2) (v2.back g1) q2⟩
    | true => exact k v H1 F1 r g1 v1 q⟩
def cIf (t : CT) (a b : CV) : CV := fun ρ => bnd (t ρ) fun k => if k = true then a ρ else b ρ
theorem re_if {t : Expr} (ht : PT X t (rdT X.K E ta)) (ha : PE X a (rdV X.K E ca)) (hb : PE X b (rdV X.K E cb)) : PE X (.IfExp t a b pos) (rdV X.K E (cIf ta ca cb)) :=
  (pe_ifExp ht ha hb).imp fun σ H Q' ⟨B, F0, F, ρ, Q, re, h, k⟩ => ⟨B, F0, F, ρ, _, re, h, fun t H1 F1 g1 h1 => by
    cases t with
    | true => exact ⟨B, F0, F1, ρ, Q, re.grow g1, h1, fun w H2 F2 r2 g2 v2 q2 => k w H2 F2 r2 (g1.trans g2) (v2.back g1) q2⟩
    | false => exact ⟨B, F0, F1, ρ, Q, re.grow g1, h1, fun w H2 F2 r2 g2 v2 q2 => k w H2 F2 r2 (g1.trans g2) (v2.back g1) q2⟩⟩

/-! ### comparisons -/
def tCm (op : CmpOp) (a b : CB) : CT := fun ρ => bnd (a ρ) fun x => bnd (b ρ) fun y => cmpM op x y
def tCh (op op' : CmpOp) (a b c : CB) : CT := fun ρ => bnd (a ρ) fun x => bnd (b ρ) fun y => bnd (cmpM op x y) fun k => if k = true then bnd (c ρ) fun z => cmpM op' y z else ret false
def vT (t : CT) : CV := fun ρ => bnd (t ρ) fun k => ret (.bl k, false)
theorem rd_cm {op : CmpOp} {σ : L2.St} {H : Hp} {Q' : VK} {Qb : Bool → Hp → Prop} (hq : ∀ b H', Qb b H' → Q' (.bl b) H') (h : rdT X.K E (tCm op xa xb) σ H Qb) : tOp (rb X.K (cmpM op)) (rdB X.K E xa) (rdB X.K E xb) σ H Q' := by
  obtain ⟨B, F0, F, ρ, Q, re, h, k⟩ := h
  exact ⟨B, F0, F, ρ, _, re, h, fun v H1 F1 d g1 b1 h1 => ⟨B, F0, F1, ρ, _, re.grow g1, h1, fun u H2 F2 d2 g2 b2 h2 =>
    ⟨F2, d, d2, Q, E, g2.fh, b1.grow g2, b2, h2, fun b q => hq _ _ (k b H2 F2 (g1.trans g2) q)⟩⟩⟩
theorem rd_ch {op op' : CmpOp} {σ : L2.St} {H : Hp} {Q' : VK} {Qb : Bool → Hp → Prop} (hq : ∀ b H', Qb b H' → Q' (.bl b) H') (h : rdT X.K E (tCh op op' xa xb xc) σ H Qb) :
    tChain (rb X.K (cmpM op)) (rb X.K (cmpM op')) (rdB X.K E xa) (rdB X.K E xb) (rdB X.K E xc) σ H Q' := by
  obtain ⟨B, F0, F, ρ, Q, re, h, k⟩ := h
  exact ⟨B, F0, F, ρ, _, re, h, fun v H1 F1 d g1 b1 h1 => ⟨B, F0, F1, ρ, _, re.grow g1, h1, fun u H2 F2 d2 g2 b2 h2 =>
    ⟨F2, d, d2, _, E, g2.fh, b1.grow g2, b2, h2, fun b q => ⟨b, rfl, by
      cases b with
      | true => exact ⟨B, F0, F2, ρ, _, (re.grow g1).grow g2, q, fun w H3 F3 d3 g3 b3 h3 => ⟨F3, d2, d3, Q, E, g3.fh, b2.grow g3, b3, h3, fun b q => hq _ _ (k b H3 F3 ((g1.trans g2).trans g3) q)⟩⟩
      | false => exact hq _ _ (k false H2 F2 (g1.trans g2) q)⟩⟩⟩⟩
theorem rdV_vT {t : CT} {σ : L2.St} {H : Hp} {Q' : VK} (h : rdV X.K E (vT t) σ H Q') : rdT X.K E t σ H fun b H' => Q' (.bl b) H' := by
  obtain ⟨B, F0, F, ρ, Q, re, h, k⟩ := h
  exact ⟨B, F0, F, ρ, _, re, h, fun b H1 F1 g1 q => k (.bl b) H1 F1 (.bl b, false) g1 (Val.of (.bl b)) q⟩
theorem re_cm {op : CmpOp} (hu : X.A.units + 65 < cLine) (ha : PE X a (rdB X.K E xa)) (hb : PE X b (rdB X.K E xb)) (hm : behindInMarks op b = false) : PE X (.Compare a [op] [b] pos) (rdV X.K E (vT (tCm op xa xb))) :=
  (pe_cmpR (op_cmp hu op) ha hb hm).imp fun σ H Q' h => rd_cm (fun _ _ q => q) (rdV_vT h)
theorem re_ch {op op' : CmpOp} (hu : X.A.units + 65 < cLine) (ha : PE X a (rdB X.K E xa)) (hb : PE X b (rdB X.K E xb)) (hc : PE X c3 (rdB X.K E xc)) (hm : lastMarks [op, op'] [b, c3] = false) :
    PE X (.Compare a [op, op'] [b, c3] pos) (rdV X.K E (vT (tCh op op' xa xb xc))) :=
  (pe_chain (op_cmp hu op) (op_cmp hu op') ha hb hc hm).imp fun σ H Q' h => rd_ch (fun _ _ q => q) (rdV_vT h)
theorem rt_cm {op : CmpOp} (hu : X.A.units + 65 < cLine) (ha : PE X a (rdB X.K E xa)) (hb : PE X b (rdB X.K E xb)) (hm : behindInMarks op b = false) : PT X (.Compare a [op] [b] pos) (rdT X.K E (tCm op xa xb)) :=
  (pt_cmpR (op_cmp hu op) ha hb hm).imp fun σ H Q' h => rd_cm (Q' := fun x H' => ∃ k, x = .bl k ∧ Q' k H') (fun b H' q => ⟨b, rfl, q⟩) h
theorem rt_ch {op op' : CmpOp} (hu : X.A.units + 65 < cLine) (ha : PE X a (rdB X.K E xa)) (hb : PE X b (rdB X.K E xb)) (hc : PE X c3 (rdB X.K E xc)) (hm : lastMarks [op, op'] [b, c3] = false) :
    PT X (.Compare a [op, op'] [b, c3] pos) (rdT X.K E (tCh op op' xa xb xc)) :=
  (pt_chain (op_cmp hu op) (op_cmp hu op') ha hb hc hm).imp fun σ H Q' h => rd_ch (Q' := fun x H' => ∃ k, x = .bl k ∧ Q' k H') (fun b H' q => ⟨b, rfl, q⟩) h

/-! ### tests -/
def tTru (a : CB) : CT := fun ρ => bnd (a ρ) truM
def tNo (a : CT) : CT := fun ρ => bnd (a ρ) fun k => ret (!k)
def tAn (a b : CT) : CT := fun ρ => bnd (a ρ) fun k => if k = true then b ρ else ret false
def tOr' (a b : CT) : CT := fun ρ => bnd (a ρ) fun k => if k = true then ret true else b ρ
theorem rt_tru (ha : PE X a (rdB X.K E xa)) (he : ∀ whole, isTrue a X.env whole = (do let v ← whole; standAt a.pos; holding [v] (truthy v))) : PT X a (rdT X.K E (tTru xa)) :=
  (pt_truth ha he).imp fun σ H Q' ⟨B, F0, F, ρ, Q, re, h, k⟩ => ⟨B, F0, F, ρ, _, re, h, fun v H1 F1 d g1 b1 h1 => by
    obtain ⟨b, t, q⟩ := truM_ok (b1.rep g1.fh) h1
    exact ⟨b, t, k b H1 F1 g1 q⟩⟩
theorem rt_not (ha : PT X a (rdT X.K E ta)) : PT X (.UnaryOp .Not a pos) (rdT X.K E (tNo ta)) :=
  (pt_not ha).imp fun σ H Q' ⟨B, F0, F, ρ, Q, re, h, k⟩ => ⟨B, F0, F, ρ, _, re, h, fun b H1 F1 g1 q => k (!b) H1 F1 g1 q⟩
theorem rw_and {rest : List Expr} (ha : PT X a (rdT X.K E ta)) (hb : PW X (.BoolOp .And (b :: rest) pos) (rdT X.K E tb)) : PW X (.BoolOp .And (a :: b :: rest) pos) (rdT X.K E (tAn ta tb)) :=
  (pw_and ha hb).imp fun σ H Q' ⟨B, F0, F, ρ, Q, re, h, k⟩ => ⟨B, F0, F, ρ, _, re, h, fun b H1 F1 g1 q => by
    cases b with
    | true => exact ⟨B, F0, F1, ρ, Q, re.grow g1, q, fun b H2 F2 g2 q2 => k b H2 F2 (g1.trans g2) q2⟩
    | false => exact k false H1 F1 g1 q⟩
theorem rw_or {rest : List Expr} (ha : PT X a (rdT X.K E ta)) (hb : PW X (.BoolOp .Or (b :: rest) pos) (rdT X.K E tb)) : PW X (.BoolOp .Or (a :: b :: rest) pos) (rdT X.K E (tOr' ta tb)) :=
  (pw_or ha hb).imp fun σ H Q' ⟨B, F0, F, ρ, Q, re, h, k⟩ => ⟨B, F0, F, ρ, _, re, h, fun b H1 F1 g1 q => by
    cases b with
    | false => exact ⟨B, F0, F1, ρ, Q, re.grow g1, q, fun b H2 F2 g2 q2 => k b H2 F2 (g1.trans g2) q2⟩
    | true => exact k true H1 F1 g1 q⟩

/-! ### lists of values -/
def cNil : CL := fun _ => ret []
def cCons (a : CB) (l : CL) : CL := fun ρ => bnd (a ρ) fun d => bnd (l ρ) fun ds => ret (d :: ds)
theorem rl_nil : PA X [] (rdL X.K E 0 cNil) := pa_nil.imp fun σ H Q' ⟨B, F0, F, ρ, Q, re, h, k⟩ => k [] H F [] re.gr .nil rfl h
theorem rl_cons {n : Nat} (ha : PE X a (rdF X.K E xa)) (hl : PA X es (rdL X.K E n cl)) (hs : starEach (a :: es) X.env = (false, eval a X.env) :: starEach es X.env) : PA X (a :: es) (rdL X.K E (n + 1) (cCons xa cl)) :=
  (pa_cons ha hl hs).imp fun σ H Q' ⟨B, F0, F, ρ, Q, re, h, k⟩ => ⟨B, F0, F, ρ, _, re, h, fun v H1 F1 d g1 b1 h1 => ⟨B, F0, F1, ρ, _, re.grow g1, h1, fun vs H2 F2 ds g2 r2 hn q =>
    k (v :: vs) H2 F2 (d :: ds) (g1.trans g2) (.cons (b1.mono g2.f) r2) (by rw [List.length_cons, hn]) q⟩⟩
theorem rm_nil : PA X [] (rdM X.K E cNil) := pa_nil.imp fun σ H Q' ⟨B, F0, F, ρ, Q, re, h, k⟩ => k [] H F [] re.gr .nil h
theorem rm_cons (ha : PE X a (rdB X.K E xa)) (hl : PA X es (rdM X.K E cl)) (hs : starEach (a :: es) X.env = (false, eval a X.env) :: starEach es X.env) : PA X (a :: es) (rdM X.K E (cCons xa cl)) :=
  (pa_cons ha hl hs).imp fun σ H Q' ⟨B, F0, F, ρ, Q, re, h, k⟩ => ⟨B, F0, F, ρ, _, re, h, fun v H1 F1 d g1 b1 h1 => ⟨B, F0, F1, ρ, _, re.grow g1, h1, fun vs H2 F2 ds g2 r2 q =>
    k (v :: vs) H2 F2 (d :: ds) (g1.trans g2) (.cons (b1.grow g2) r2) q⟩⟩
def cTup (l : CL) : CV := fun ρ => bnd (l ρ) fun ds Q _ => ds.length ≤ sizeLine ∧ Q (.tup ds, false)
def cLst (l : CL) : CV := fun ρ => bnd (l ρ) fun ds Q _ => ds.length ≤ sizeLine ∧ Q (.lst ds, true)
theorem re_tup {j n : Nat} (hl : PA X es (rdL X.K E n cl)) : PE X (.Tuple es j pos) (rdV X.K E (cTup cl)) :=
  (pe_tup hl).imp fun σ H Q' ⟨B, F0, F, ρ, Q, re, h, k⟩ => ⟨B, F0, F, ρ, _, re, h, fun vs H1 F1 ds g1 r1 _ q => ⟨by rw [r1.length]; exact q.1,
    new_tup g1.fh r1 q.2 fun w F2 H2 r g2 v2 q2 => k w H2 F2 r (g1.trans g2) (v2.back g1) q2⟩⟩
theorem re_lst {n : Nat} (hl : PA X es (rdL X.K E n cl)) : PE X (.List es pos) (rdV X.K E (cLst cl)) :=
  (pe_lst hl).imp fun σ H Q' ⟨B, F0, F, ρ, Q, re, h, k⟩ => ⟨B, F0, F, ρ, _, re, h, fun vs H1 F1 ds g1 r1 _ q => ⟨by rw [r1.length]; exact q.1,
    new_own g1.fh r1 q.2 fun w F2 H2 r g2 v2 q2 => k w H2 F2 r (g1.trans g2) (v2.back g1) q2⟩⟩

/-! ### subscripts -/
def cIx (a b : CB) : CV := fun ρ => bnd (a ρ) fun x => bnd (b ρ) fun y => bnd (ixM x y) fun d => ret (d, false)
theorem re_ix (ha : PE X a (rdB X.K E xa)) (hb : PE X b (rdB X.K E xb)) (hs : PlainIx b) : PE X (.Subscript a b pos) (rdV X.K E (cIx xa xb)) :=
  (pe_ix ix_ok ha hb hs).imp fun σ H Q' ⟨B, F0, F, ρ, Q, re, h, k⟩ =>
    ⟨B, F0, F, ρ, _, re, h, fun v H1 F1 d g1 b1 h1 => ⟨B, F0, F1, ρ, _, re.grow g1, h1, fun u H2 F2 d2 g2 b2 h2 =>
      ⟨F2, d, d2, _, E, g2.fh, b1.grow g2, b2, h2, fun w d3 r3 q => k w H2 F2 (d3, false) (g1.trans g2) (Val.of r3) q⟩⟩⟩
abbrev CO := Env → M (Option Int)
def oNo : CO := fun _ => ret none
def oIs (a : CB) : CO := fun ρ => bnd (a ρ) fun x => match x with
  | .int i => ret (some i)
  | _ => fail
def rdO (K : PySem.W.Frag) (E : Xn → Prop) (c : CO) : TO := fun σ H Q' => ∃ B F0 F ρ Q, REnv K B F0 F H σ ρ ∧ c ρ Q E ∧ ∀ o H' F', Grow F H F' H' → Q o → Q' o H'
theorem ro_no : PO X none (rdO X.K E oNo) := PO.imp po_none fun σ H Q' ⟨B, F0, F, ρ, Q, re, h, k⟩ => k none H F re.gr h
theorem ro_is (ha : PE X a (rdB X.K E xa)) : PO X (some a) (rdO X.K E (oIs xa)) := PO.imp (po_some ha) fun σ H Q' ⟨B, F0, F, ρ, Q, re, h, k⟩ => ⟨B, F0, F, ρ, _, re, h, fun v H1 F1 d g1 b1 h1 => by
  cases d with
  | int i =>
    cases b1.int
    exact ⟨i, rfl, k _ H1 F1 g1 h1⟩
  | _ => exact h1.elim⟩
def cSl (a : CB) (lo hi : CO) : CV := fun ρ => bnd (a ρ) fun x => bnd (lo ρ) fun l => bnd (hi ρ) fun u => slM x l u
theorem re_sl {lo hi : Option Expr} {p2 : Pos} {ol oh : CO} (ha : PE X a (rdB X.K E xa)) (hl : PO X lo (rdO X.K E ol)) (hh : PO X hi (rdO X.K E oh)) : PE X (.Subscript a (.Slice lo hi none p2) pos) (rdV X.K E (cSl xa ol oh)) :=
  (pe_slice sl_ok ha hl hh).imp fun σ H Q' ⟨B, F0, F, ρ, Q, re, h, k⟩ =>
    ⟨B, F0, F, ρ, _, re, h, fun v H1 F1 d g1 b1 h1 => ⟨B, F0, F1, ρ, _, re.grow g1, h1, fun l H2 F2 g2 h2 => ⟨B, F0, F2, ρ, _, (re.grow g1).grow g2, h2, fun u H3 F3 g3 h3 =>
      ⟨F3, d, Q, E, g3.fh, b1.grow (g2.trans g3), h3, fun w F4 H4 r g4 v4 q => k w H4 F4 r (((g1.trans g2).trans g3).trans g4) (v4.back ((g1.trans g2).trans g3)) q⟩⟩⟩⟩
end
end DL

namespace DL
open PySem L2

/-! ### a def called -/
def SpF (fl : Bool) (K : PySem.W.Frag) (n : Nat) (m : List D → M D) : Sp := fun vs H Q _ => vs.length = n ∧ ∃ F ds QD ED, Same F H ∧ RepL K F vs ds ∧ m ds QD ED ∧ ∀ v H' F' d, Grow F H F' H' → Val K F' H' H v (d, fl) → QD d → Q v H'
abbrev SpM := SpF false
theorem Val.rep {K : PySem.W.Frag} {F H H0 : Hp} {v : V} {d : D} (h : Val K F H H0 v (d, false)) : Rep K F v d := by
  unfold Val at h
  rw [if_neg (show ¬ ((d, false).2 = true) from Bool.false_ne_true)] at h
  exact h
def callD (n : Nat) (m : List D → M D) (ds : List D) : M (D × Bool) := fun Q E => ds.length = n ∧ m ds (fun d => Q (d, false)) E
def callF (fl : Bool) (n : Nat) (m : List D → M D) (ds : List D) : M (D × Bool) := fun Q E => ds.length = n ∧ m ds (fun d => Q (d, fl)) E
def cCall (n : Nat) (m : List D → M D) (l : CL) : CV := fun ρ => bnd (l ρ) fun ds => callD n m ds
def cCallF (fl : Bool) (n : Nat) (m : List D → M D) (l : CL) : CV := fun ρ => bnd (l ρ) fun ds => callF fl n m ds
/-- the places of a call's values in the order of the parameters -/
def pick {α : Type} (is : List Nat) (xs : List α) : List α := is.filterMap fun i => xs[i]?
def cCallK (n : Nat) (is : List Nat) (m : List D → M D) (l k : CL) : CV := fun ρ => bnd (l ρ) fun ds => bnd (k ρ) fun es => callD n m (pick is (ds ++ es))
def cCallKF (fl : Bool) (n : Nat) (is : List Nat) (m : List D → M D) (l k : CL) : CV := fun ρ => bnd (l ρ) fun ds => bnd (k ρ) fun es => callF fl n m (pick is (ds ++ es))
theorem RepL.pick {K : PySem.W.Frag} {F : Hp} {vs : List V} {ds : List D} (r : RepL K F vs ds) : ∀ is : List Nat, RepL K F (pick is vs) (pick is ds)
  | [] => .nil
  | i :: is => by
    have ih := RepL.pick r is
    unfold DL.pick at ih ⊢
    cases h : vs[i]? with
    | none =>
      have h2 : ds[i]? = none := by
        rw [List.getElem?_eq_none_iff] at h ⊢
        rw [← r.length]; exact h
      rw [List.filterMap_cons_none h, List.filterMap_cons_none h2]
      exact ih
    | some v =>
      obtain ⟨d, h2, q⟩ := r.getV h
      rw [List.filterMap_cons_some h, List.filterMap_cons_some h2]
      exact .cons q ih
theorem vals_pick {vs : List V} {us : List Value} (r : Vals vs us) : ∀ is : List Nat, Vals (pick is vs) (pick is us)
  | [] => .nil
  | i :: is => by
    have ih := vals_pick r is
    unfold DL.pick at ih ⊢
    cases h : vs[i]? with
    | none => rw [List.filterMap_cons_none h, List.filterMap_cons_none (r.none_of h)]; exact ih
    | some v =>
      obtain ⟨u, h2, q⟩ := r.get h
      rw [List.filterMap_cons_some h, List.filterMap_cons_some h2]
      exact .cons q ih
section
variable {X : Cx} {E : Xn → Prop} {e a b c3 : Expr} {c ca cb cc : CV} {xa xb xc : CB} {ta tb : CT} {es : List Expr} {cl ck : CL} {pos p : Pos} {k : Nat} {f : Addr} {fd : FuncData} {ps ks : List Str} {x : Str} {m : List D → M D} {kws : List Keyword} {fl : Bool}
theorem sp_of {H H1 F F1 : Hp} {Q : D × Bool → Prop} {Q' : VK} {vs : List V} {ds : List D} (kq : ∀ v H' F' r, Grow F H F' H' → Val X.K F' H' H v r → Q r → Q' v H') (g1 : Grow F H F1 H1) (r1 : RepL X.K F1 vs ds) (h : callF fl ps.length m ds Q E) :
    SpF fl X.K ps.length m vs H1 Q' E0 :=
  ⟨by rw [r1.length]; exact h.1, F1, ds, _, E, g1.fh, r1, h.2, fun v H2 F2 d g2 r2 q2 => kq v H2 F2 (d, fl) (g1.trans g2) (r2.back g1) q2⟩
theorem re_call (F : FnG X.prog X.w X.K X.mg X.base CX0 k f fd ps (SpF fl X.K ps.length m)) (hr : Room k X.A) (gd : X.A.guards = some []) (hg : Gl X x) (hm : X.mg x = some (.ref f)) (hk : PySem.W.keepIn X.K (.ref f) = true) (hb : Binds X.K fd ps [])
    {n : Nat} (hl : PA X (e :: es) (rdL X.K E n cl)) (hdb : (x == ("__debug__" : Str)) = false) (hs : starEach (e :: es) X.env = (false, eval e X.env) :: starEach es X.env) (hpl : (backTo pos (starEach es X.env)).any (·.1) = false) :
    PE X (.Call (.Name x p) (e :: es) [] pos) (rdV X.K E (cCallF fl ps.length m cl)) :=
  (pe_callG F hr gd hg hm hk hb .nil pass0 hl hdb hs hpl).imp fun σ H Q' ⟨B, F0, F, ρ, Q, re, h, kq⟩ => ⟨B, F0, F, ρ, _, re, h, fun vs H1 F1 ds g1 r1 _ q => by
    show SpF fl X.K ps.length m (vs ++ []) H1 Q' E0
    rw [List.append_nil]
    exact sp_of kq g1 r1 q⟩
theorem re_call0 (F : FnG X.prog X.w X.K X.mg X.base CX0 k f fd ps (SpF fl X.K ps.length m)) (hr : Room k X.A) (gd : X.A.guards = some []) (hg : Gl X x) (hm : X.mg x = some (.ref f)) (hk : PySem.W.keepIn X.K (.ref f) = true) (hb : Binds X.K fd ps [])
    (hdb : (x == ("__debug__" : Str)) = false) : PE X (.Call (.Name x p) [] [] pos) (rdV X.K E (cCallF fl ps.length m cNil)) :=
  (pe_callG0 F hr gd hg hm hk hb .nil pass0 hdb).imp fun σ H Q' ⟨B, F0, F, ρ, Q, re, h, kq⟩ => sp_of kq re.gr .nil h
theorem rk_nil : PK X [] (rdL X.K E 0 cNil) := ⟨fun pos pins s σ H Q' I ⟨B, F0, F, ρ, Q, re, h, k⟩ => pk_nil.run pos pins s σ H Q' I (k [] H F [] re.gr .nil rfl h)⟩
theorem rk_cons {n : Nat} {nm : Option Str} {kp : Pos} (ha : PE X a (rdF X.K E xa)) (hl : PK X kws (rdL X.K E n cl)) : PK X (⟨nm, a, kp⟩ :: kws) (rdL X.K E (n + 1) (cCons xa cl)) :=
  ⟨fun pos pins s σ H Q' I ⟨B, F0, F, ρ, Q, re, h, k⟩ => (pk_cons ha hl).run pos pins s σ H Q' I ⟨B, F0, F, ρ, _, re, h, fun v H1 F1 d g1 b1 h1 => ⟨B, F0, F1, ρ, _, re.grow g1, h1, fun vs H2 F2 ds g2 r2 hn q =>
    k (v :: vs) H2 F2 (d :: ds) (g1.trans g2) (.cons (b1.mono g2.f) r2) (by rw [List.length_cons, hn]) q⟩⟩⟩
/-- how a call of so many places and these keywords binds -/
structure KwOk (K : PySem.W.Frag) (fd : FuncData) (ps : List Str) (n : Nat) (ks : List Str) (is : List Nat) : Prop where
  to : ∀ (s : Shared) (us ws : List Value), K.In s.heap → us.length = n → ws.length = ks.length → BindsTo s fd ⟨us, ks.zip ws⟩ (ps.zip (pick is (us ++ ws)))
theorem kw_pairs (env : PySem.Env) : ∀ l : List Keyword, keywordEach l env = l.map fun k => (k.arg, eval k.value env)
  | [] => rfl
  | ⟨n1, v1, p1⟩ :: l => by
    show (n1, eval v1 env) :: keywordEach l env = _
    rw [kw_pairs env l]
    rfl
theorem kw_names {env : PySem.Env} (hks : kws.map (·.arg) = ks.map some) : (backToKw pos (keywordEach kws env)).map (·.1) = ks.map some := by
  rw [kw_pairs, ← hks]
  unfold backToKw
  rw [List.map_map, List.map_map]
  rfl
theorem kw_all {env : PySem.Env} (hks : kws.map (·.arg) = ks.map some) : (backToKw pos (keywordEach kws env)).all (·.1.isSome) = true := by
  rw [List.all_eq_true]
  intro z hz
  have := List.mem_map_of_mem (f := (·.1)) hz
  rw [kw_names hks] at this
  obtain ⟨y, _, e⟩ := List.mem_map.mp this
  rw [← e]; rfl
theorem kw_keys {env : PySem.Env} (hks : kws.map (·.arg) = ks.map some) : (backToKw pos (keywordEach kws env)).filterMap (·.1) = ks := by
  have : (backToKw pos (keywordEach kws env)).filterMap (·.1) = ((backToKw pos (keywordEach kws env)).map (·.1)).filterMap id := by rw [List.filterMap_map]; rfl
  rw [this, kw_names hks, List.filterMap_map]
  show ks.filterMap (fun z => some z) = ks
  rw [List.filterMap_some]
theorem kw_none {env : PySem.Env} (hks : kws.map (·.arg) = ks.map some) : (backToKw pos (keywordEach kws env)).any (·.1.isNone) = false := by
  rw [List.any_eq_false]
  intro z hz
  have := List.all_eq_true.mp (kw_all hks) z hz
  cases q : z.1 with
  | none => rw [q] at this; cases this
  | some y => exact Bool.false_ne_true
theorem kw_fin {n : Nat} {is : List Nat} (F : FnG X.prog X.w X.K X.mg X.base CX0 k f fd ps (SpF fl X.K ps.length m)) (hr : Room k X.A) (gd : X.A.guards = some []) (hb : KwOk X.K fd ps n ks is)
    {pins : List (Addr × Obj)} {σ : L2.St} {H F0 : Hp} {Q : D × Bool → Prop} {Q' : VK} (kq : ∀ v H' F' r, Grow F0 H F' H' → Val X.K F' H' H v r → Q r → Q' v H')
    {s2 : Shared} {us ws : List Value} {vs zs : List V} {ds dz : List D} {H1 F1 : Hp} (I2 : Inv X pins σ H1 s2) (rv : Vals vs us) (rz : Vals zs ws) (g1 : Grow F0 H F1 H1) (r1 : RepL X.K F1 vs ds) (r2 : RepL X.K F1 zs dz) (e1 : vs.length = n) (e2 : zs.length = ks.length)
    (q : callF fl ps.length m (pick is (ds ++ dz)) Q E) : wpAny (model X.prog X.w) X.A (call (.ref f) us (ks.zip ws)) (EP X pins σ Q') X.xe s2 :=
  runG (args := ⟨us, ks.zip ws⟩) (ws := []) F hr gd (hb.to s2 us ws I2.kIn (by rw [← rv.length]; exact e1) (by rw [← rz.length]; exact e2)) pass0 I2 (vals_pick (rv.append rz) is) (sp_of kq g1 ((r1.append r2).pick is) q)
theorem re_callK {n : Nat} {is : List Nat} (F : FnG X.prog X.w X.K X.mg X.base CX0 k f fd ps (SpF fl X.K ps.length m)) (hr : Room k X.A) (gd : X.A.guards = some []) (hg : Gl X x) (hm : X.mg x = some (.ref f)) (hk : PySem.W.keepIn X.K (.ref f) = true) (hb : KwOk X.K fd ps n ks is)
    (hl : PA X (e :: es) (rdL X.K E n cl)) (hkw : PK X kws (rdL X.K E ks.length ck)) (hs : starEach (e :: es) X.env = (false, eval e X.env) :: starEach es X.env) (hpl : (backTo pos (starEach (e :: es) X.env)).any (·.1) = false)
    (hks : kws.map (·.arg) = ks.map some) (hdb : (x == ("__debug__" : Str)) = false) :
    PE X (.Call (.Name x p) (e :: es) kws pos) (rdV X.K E (cCallKF fl ps.length is m cl ck)) := by
  refine ⟨fun pins s σ H Q' I hw => ?_⟩
  obtain ⟨B, F0, Fz, ρ, Q, re, h, kq⟩ := hw
  refine wpAny_Call_Name_kw (ld_glob I hg hm ?_ hdb)
  refine PySem.W.callWith_KW (h₀ := X.base) I.ok.mod.kin hk (kw_all hks) (thn (hl.run pos pins s σ H (fun vs H1 => ∃ F1 ds, Grow Fz H F1 H1 ∧ RepL X.K F1 vs ds ∧ vs.length = n ∧ ck ρ (fun es => callF fl ps.length m (pick is (ds ++ es)) Q E) E) I
    ⟨B, F0, Fz, ρ, _, re, h, fun vs H1 F1 ds g1 r1 hn q => ⟨F1, ds, g1, r1, hn, q⟩⟩) ?_) (by rw [hpl, kw_none hks]; rfl) hs
  rintro us s1 ⟨vs, H1, I1, rv, F1, ds, g1, r1, hn, q⟩
  refine thn (hkw.run pos pins s1 σ H1 (fun zs H2 => ∃ F2 dz, Grow F1 H1 F2 H2 ∧ RepL X.K F2 zs dz ∧ zs.length = ks.length ∧ callF fl ps.length m (pick is (ds ++ dz)) Q E) I1
    ⟨B, F0, F1, ρ, _, re.grow g1, q, fun zs H2 F2 dz g2 r2 hn2 q2 => ⟨F2, dz, g2, r2, hn2, q2⟩⟩) ?_
  rintro ws s2 ⟨zs, H2, I2, rz, F2, dz, g2, r2, hn2, q2⟩
  refine ⟨I2.kIn, ?_⟩
  rw [kw_keys hks]
  exact kw_fin F hr gd hb kq I2 rv rz (g1.trans g2) (r1.mono g2.f) r2 hn hn2 q2
theorem re_callK0 {is : List Nat} (F : FnG X.prog X.w X.K X.mg X.base CX0 k f fd ps (SpF fl X.K ps.length m)) (hr : Room k X.A) (gd : X.A.guards = some []) (hg : Gl X x) (hm : X.mg x = some (.ref f)) (hk : PySem.W.keepIn X.K (.ref f) = true) (hb : KwOk X.K fd ps 0 ks is)
    (hkw : PK X kws (rdL X.K E ks.length ck)) (hks : kws.map (·.arg) = ks.map some) (hdb : (x == ("__debug__" : Str)) = false) :
    PE X (.Call (.Name x p) [] kws pos) (rdV X.K E (cCallKF fl ps.length is m cNil ck)) := by
  refine ⟨fun pins s σ H Q' I hw => ?_⟩
  obtain ⟨B, F0, Fz, ρ, Q, re, h, kq⟩ := hw
  refine wpAny_Call_Name_kw (ld_glob I hg hm ?_ hdb)
  refine PySem.W.callWith_KW0 (h₀ := X.base) I.ok.mod.kin hk (kw_all hks) (thn (hkw.run pos pins s σ H (fun zs H2 => ∃ F2 dz, Grow Fz H F2 H2 ∧ RepL X.K F2 zs dz ∧ zs.length = ks.length ∧ callF fl ps.length m (pick is ([] ++ dz)) Q E) I
    ⟨B, F0, Fz, ρ, _, re, h, fun zs H2 F2 dz g2 r2 hn2 q2 => ⟨F2, dz, g2, r2, hn2, q2⟩⟩) ?_) (by rw [kw_none hks]; rfl)
  rintro ws s2 ⟨zs, H2, I2, rz, F2, dz, g2, r2, hn2, q2⟩
  refine ⟨I2.kIn, ?_⟩
  rw [kw_keys hks]
  exact kw_fin (us := []) (vs := []) (ds := []) F hr gd hb kq I2 .nil rz g2 .nil r2 rfl hn2 q2
end
end DL

namespace DL
open PySem L2

/-! ### built-ins, by what they give -/
def rcM (K : PySem.W.Frag) (m : List D → M (D × Bool)) : List V → Hp → VK → Prop := fun vs H Q => ∃ F ds Q2 E, Same F H ∧ BorL K F H vs ds ∧ m ds Q2 E ∧
  ∀ v F' H' r, Grow F H F' H' → Val K F' H' H v r → Q2 r → Q v H'
def cB (m : List D → M (D × Bool)) (l : CL) : CV := fun ρ => bnd (l ρ) fun ds => m ds
theorem call_rcM {X : Cx} {E : Xn → Prop} {cl : CL} {σ : L2.St} {H : Hp} {Q' : VK} {m : List D → M (D × Bool)} (h : rdV X.K E (cB m cl) σ H Q') : tCB (rcM X.K m) (rdM X.K E cl) σ H Q' := by
  obtain ⟨B, F0, F, ρ, Q, re, h, k⟩ := h
  exact ⟨B, F0, F, ρ, _, re, h, fun vs H1 F1 ds g1 b1 q => ⟨F1, ds, Q, E, g1.fh, b1, q, fun v F2 H2 r g2 v2 q2 => k v H2 F2 r (g1.trans g2) (v2.back g1) q2⟩⟩
section
variable {X : Cx} {E : Xn → Prop} {e : Expr} {es : List Expr} {cl : CL} {x : Str} {p pos : Pos} {m : List D → M (D × Bool)} {id T : String}
theorem re_callB (hc : CallR X (.builtin id) (rcM X.K m)) (hg : Gl X x) (hm : X.mg x = none) (hv : bootBuiltins x = some (.builtin id)) (ha : PA X (e :: es) (rdM X.K E cl)) (hn : x ≠ "__name__") (hdb : (x == ("__debug__" : Str)) = false)
    (hs : starEach (e :: es) X.env = (false, eval e X.env) :: starEach es X.env) (hpl : (backTo pos (starEach es X.env)).any (·.1) = false) : PE X (.Call (.Name x p) (e :: es) [] pos) (rdV X.K E (cB m cl)) :=
  (pe_callB hc hg hm hv ha hn hdb hs hpl).imp fun σ H Q' h => call_rcM h
theorem re_callT (hc : CallR X (.type T) (rcM X.K m)) (hg : Gl X x) (hm : X.mg x = none) (hv : bootBuiltins x = some (.type T)) (ha : PA X (e :: es) (rdM X.K E cl)) (hn : x ≠ "__name__") (hdb : (x == ("__debug__" : Str)) = false)
    (hs : starEach (e :: es) X.env = (false, eval e X.env) :: starEach es X.env) (hpl : (backTo pos (starEach es X.env)).any (·.1) = false) : PE X (.Call (.Name x p) (e :: es) [] pos) (rdV X.K E (cB m cl)) :=
  (pe_callTy hc hg hm hv ha hn hdb hs hpl).imp fun σ H Q' h => call_rcM h
end

def intsD : List D → Option (List Int)
  | [] => some []
  | .int i :: r => (intsD r).map (i :: ·)
  | _ => none
def blsD : List D → Option (List Bool)
  | [] => some []
  | .bl i :: r => (blsD r).map (i :: ·)
  | _ => none
def strsD : List D → Option (List Str)
  | [] => some []
  | .str i :: r => (strsD r).map (i :: ·)
  | _ => none
section
variable {K : PySem.W.Frag} {F H : Hp}
theorem RepL.ints : ∀ {ds : List D} {vs : List V} {ns : List Int}, RepL K H vs ds → intsD ds = some ns → vs = ns.map V.int
  | [], _, _, .nil, e => by simp only [intsD, Option.some.injEq] at e; subst e; rfl
  | .int i :: ds, _, _, .cons (.int _) t, e => by
    simp only [intsD] at e
    cases q : intsD ds with
    | none => rw [q] at e; cases e
    | some ns => rw [q] at e; simp only [Option.map_some, Option.some.injEq] at e; subst e; rw [RepL.ints t q]; rfl
  | .non :: _, _, _, _, e | .bl _ :: _, _, _, _, e | .str _ :: _, _, _, _, e | .lst _ :: _, _, _, _, e | .tup _ :: _, _, _, _, e | .dct _ :: _, _, _, _, e | .obj _ _ :: _, _, _, _, e | .raw _ :: _, _, _, _, e | .gen :: _, _, _, _, e | .scr _ :: _, _, _, _, e => by simp [intsD] at e
theorem RepL.bls : ∀ {ds : List D} {vs : List V} {ns : List Bool}, RepL K H vs ds → blsD ds = some ns → vs = ns.map V.bl
  | [], _, _, .nil, e => by simp only [blsD, Option.some.injEq] at e; subst e; rfl
  | .bl i :: ds, _, _, .cons (.bl _) t, e => by
    simp only [blsD] at e
    cases q : blsD ds with
    | none => rw [q] at e; cases e
    | some ns => rw [q] at e; simp only [Option.map_some, Option.some.injEq] at e; subst e; rw [RepL.bls t q]; rfl
  | .non :: _, _, _, _, e | .int _ :: _, _, _, _, e | .str _ :: _, _, _, _, e | .lst _ :: _, _, _, _, e | .tup _ :: _, _, _, _, e | .dct _ :: _, _, _, _, e | .obj _ _ :: _, _, _, _, e | .raw _ :: _, _, _, _, e | .gen :: _, _, _, _, e | .scr _ :: _, _, _, _, e => by simp [blsD] at e
theorem RepL.strs : ∀ {ds : List D} {vs : List V} {ns : List Str}, RepL K H vs ds → strsD ds = some ns → vs = ns.map V.str
  | [], _, _, .nil, e => by simp only [strsD, Option.some.injEq] at e; subst e; rfl
  | .str i :: ds, _, _, .cons (.str _) t, e => by
    simp only [strsD] at e
    cases q : strsD ds with
    | none => rw [q] at e; cases e
    | some ns => rw [q] at e; simp only [Option.map_some, Option.some.injEq] at e; subst e; rw [RepL.strs t q]; rfl
  | .non :: _, _, _, _, e | .int _ :: _, _, _, _, e | .bl _ :: _, _, _, _, e | .lst _ :: _, _, _, _, e | .tup _ :: _, _, _, _, e | .dct _ :: _, _, _, _, e | .obj _ _ :: _, _, _, _, e | .raw _ :: _, _, _, _, e | .gen :: _, _, _, _, e | .scr _ :: _, _, _, _, e => by simp [strsD] at e
theorem repL_ints (ns : List Int) : RepL K H (ns.map V.int) (ns.map D.int) := by
  induction ns with
  | nil => exact .nil
  | cons n ns ih => exact .cons (.int n) ih
theorem repL_strs (ns : List Str) : RepL K H (ns.map V.str) (ns.map D.str) := by
  induction ns with
  | nil => exact .nil
  | cons n ns ih => exact .cons (.str n) ih
end
theorem BorL.one {K : PySem.W.Frag} {F H : Hp} {vs : List V} {d : D} (b : BorL K F H vs [d]) : ∃ v, vs = [v] ∧ Bor K F H v d := by
  cases b with
  | cons r t => cases t; exact ⟨_, rfl, r⟩
theorem BorL.two {K : PySem.W.Frag} {F H : Hp} {vs : List V} {d e : D} (b : BorL K F H vs [d, e]) : ∃ v u, vs = [v, u] ∧ Bor K F H v d ∧ Bor K F H u e := by
  cases b with
  | cons r t => cases t with | cons r2 t2 => cases t2; exact ⟨_, _, rfl, r, r2⟩

def lenM : List D → M (D × Bool)
  | [.str z] => fun Q _ => z.length ≤ sizeLine ∧ Q (.int z.length, false)
  | [.lst ds] => ret (.int ds.length, false)
  | [.tup ds] => ret (.int ds.length, false)
  | [.dct kvs] => ret (.int kvs.length, false)
  | [.scr ns] => ret (.int ns.length, false)
  | _ => fail
def absM : List D → M (D × Bool)
  | [.int i] => ret (.int (if i < 0 then -i else i), false)
  | _ => fail
def listM : List D → M (D × Bool)
  | [.lst ds] => ret (.lst ds, true)
  | [.tup ds] => ret (.lst ds, true)
  | _ => fail
def tupleM : List D → M (D × Bool)
  | [.lst ds] => ret (.tup ds, false)
  | [.tup ds] => ret (.tup ds, false)
  | _ => fail
def allM : List D → M (D × Bool)
  | [.lst ds] => fun Q _ => match blsD ds with | some bs => Q (.bl (bs.all id), false) | none => False
  | _ => fail
def anyM : List D → M (D × Bool)
  | [.lst ds] => fun Q _ => match blsD ds with | some bs => Q (.bl (bs.any id), false) | none => False
  | _ => fail
def sumM : List D → M (D × Bool)
  | [.lst ds] => fun Q _ => match intsD ds with | some ns => Q (.int ns.sum, false) | none => False
  | _ => fail
/-- the greatest, the least -/
def topI : Int → List Int → Int
  | a, [] => a
  | a, b :: r => topI (if a < b then b else a) r
def lowI : Int → List Int → Int
  | a, [] => a
  | a, b :: r => lowI (if b < a then b else a) r
theorem topI_spec : ∀ (l : List Int) (a : Int), topI a l ∈ a :: l ∧ ∀ y ∈ a :: l, y ≤ topI a l
  | [], a => by simp [topI]
  | b :: r, a => by
    have ih := topI_spec r (if a < b then b else a)
    unfold topI
    by_cases h : a < b
    · rw [if_pos h] at ih ⊢
      refine ⟨List.mem_cons_of_mem _ ih.1, fun y hy => ?_⟩
      rcases List.mem_cons.mp hy with rfl | hy
      · have := ih.2 b List.mem_cons_self; omega
      · exact ih.2 y hy
    · rw [if_neg h] at ih ⊢
      refine ⟨?_, fun y hy => ?_⟩
      · rcases List.mem_cons.mp ih.1 with e | e
        · rw [e]; exact List.mem_cons_self
        · exact List.mem_cons_of_mem _ (List.mem_cons_of_mem _ e)
      · rcases List.mem_cons.mp hy with rfl | hy
        · exact ih.2 _ List.mem_cons_self
        · rcases List.mem_cons.mp hy with rfl | hy
          · have := ih.2 a List.mem_cons_self; omega
          · exact ih.2 y (List.mem_cons_of_mem _ hy)
theorem lowI_spec : ∀ (l : List Int) (a : Int), lowI a l ∈ a :: l ∧ ∀ y ∈ a :: l, lowI a l ≤ y
  | [], a => by simp [lowI]
  | b :: r, a => by
    have ih := lowI_spec r (if b < a then b else a)
    unfold lowI
    by_cases h : b < a
    · rw [if_pos h] at ih ⊢
      refine ⟨List.mem_cons_of_mem _ ih.1, fun y hy => ?_⟩
      rcases List.mem_cons.mp hy with rfl | hy
      · have := ih.2 b List.mem_cons_self; omega
      · exact ih.2 y hy
    · rw [if_neg h] at ih ⊢
      refine ⟨?_, fun y hy => ?_⟩
      · rcases List.mem_cons.mp ih.1 with e | e
        · rw [e]; exact List.mem_cons_self
        · exact List.mem_cons_of_mem _ (List.mem_cons_of_mem _ e)
      · rcases List.mem_cons.mp hy with rfl | hy
        · exact ih.2 _ List.mem_cons_self
        · rcases List.mem_cons.mp hy with rfl | hy
          · have := ih.2 a List.mem_cons_self; omega
          · exact ih.2 y (List.mem_cons_of_mem _ hy)
def maxM : List D → M (D × Bool)
  | [.lst ds] => fun Q _ => match intsD ds with | some (a :: r) => Q (.int (topI a r), false) | _ => False
  | [.int i, .int j] => ret (.int (if j > i then j else i), false)
  | _ => fail
def minM : List D → M (D × Bool)
  | [.lst ds] => fun Q _ => match intsD ds with | some (a :: r) => Q (.int (lowI a r), false) | _ => False
  | [.int i, .int j] => ret (.int (if j < i then j else i), false)
  | _ => fail
/-- sorted by insertion -/
def insI (a : Int) : List Int → List Int
  | [] => [a]
  | b :: r => if a ≤ b then a :: b :: r else b :: insI a r
def srtI : List Int → List Int
  | [] => []
  | a :: r => insI a (srtI r)
theorem insI_perm (a : Int) : ∀ l : List Int, (insI a l).Perm (a :: l)
  | [] => .refl _
  | b :: r => by
    unfold insI
    split
    · exact .refl _
    · exact ((insI_perm a r).cons b).trans (.swap a b r)
theorem srtI_perm : ∀ l : List Int, (srtI l).Perm l
  | [] => .refl _
  | a :: r => (insI_perm a _).trans ((srtI_perm r).cons a)
theorem insI_sorted (a : Int) : ∀ l : List Int, l.Pairwise (· ≤ ·) → (insI a l).Pairwise (· ≤ ·)
  | [], _ => by simp [insI]
  | b :: r, h => by
    unfold insI
    split
    · rename_i hab
      rw [List.pairwise_cons] at h ⊢
      refine ⟨fun y hy => ?_, List.pairwise_cons.mpr h⟩
      rcases List.mem_cons.mp hy with rfl | hy
      · exact hab
      · have := h.1 y hy; omega
    · rename_i hab
      rw [List.pairwise_cons] at h ⊢
      refine ⟨fun y hy => ?_, insI_sorted a r h.2⟩
      rcases List.mem_cons.mp ((insI_perm a r).mem_iff.mp hy) with rfl | hy
      · omega
      · exact h.1 y hy
theorem srtI_sorted : ∀ l : List Int, (srtI l).Pairwise (· ≤ ·)
  | [] => .nil
  | a :: r => insI_sorted a _ (srtI_sorted r)
theorem sorted_one {a b : List Int} (p : a.Perm b) (ha : a.Pairwise (· ≤ ·)) (hb : b.Pairwise (· ≤ ·)) : a = b := p.eq_of_pairwise (le := (· ≤ ·)) (fun x y _ _ h1 h2 => Int.le_antisymm h1 h2) ha hb
def sortedM : List D → M (D × Bool)
  | [.lst ds] => fun Q _ => match intsD ds with | some ns => Q (.lst ((srtI ns).map D.int), true) | none => False
  | _ => fail
def reprM : List D → M (D × Bool)
  | [d] => fun Q _ => match d.py with | some p => p.canLay0 = true ∧ p.showable = true ∧ p.shown.length ≤ sizeLine ∧ p.depth ≤ 100 ∧ Q (.str p.shown, false) | none => False
  | _ => fail

section
variable {X : Cx}
theorem b_len : CallR X (.builtin "len") (rcM X.K lenM) := by
  intro pins s σ H xs us Q I r h
  obtain ⟨F, ds, Q2, E, sm, b, h, k⟩ := h
  unfold lenM at h
  split at h
  · obtain ⟨v, rfl, b1⟩ := b.one
    cases b1.str
    exact call_len pins s σ H _ us Q I r ⟨_, _, rfl, ⟨h.1, rfl⟩, k _ F H _ (Grow.refl sm) (Val.of (.int _)) h.2⟩
  · obtain ⟨v, rfl, b1⟩ := b.one
    obtain ⟨a, vs, rfl, ha, ra⟩ := b1.lst sm
    exact call_len_seq pins s σ H _ us Q I r ⟨_, _, rfl, .inl (SqL.of ha), by rw [ra.length]; exact k _ F H _ (Grow.refl sm) (Val.of (.int _)) h⟩
  · obtain ⟨v, rfl, b1⟩ := b.one
    obtain ⟨a, vs, rfl, ha, ra⟩ := b1.tup sm
    exact call_len_seq pins s σ H _ us Q I r ⟨_, _, rfl, .inr ha, by rw [ra.length]; exact k _ F H _ (Grow.refl sm) (Val.of (.int _)) h⟩
  · rename_i kvs
    obtain ⟨v, rfl, b1⟩ := b.one
    have kl : ∀ {ks : List (Key × V)} {kvs : List (D × D)} {F : Hp}, RepK X.K F ks kvs → ks.length = kvs.length := by
      intro ks kvs F r
      induction ks generalizing kvs with
      | nil => cases r; rfl
      | cons z zs ih => cases r with | cons q t => rw [List.length_cons, List.length_cons, ih t]
    have fin : ∃ a ks, v = .ref a ∧ H a = some (.dK ks) ∧ RepK X.K F ks kvs := by
      rcases b1 with b | ⟨p, rfl, ks, h, r⟩
      · cases b with
        | dct h r => exact ⟨_, _, rfl, sm _ _ h, r⟩
      · exact ⟨p, ks, rfl, h, r⟩
    obtain ⟨a, ks, rfl, ha, ra⟩ := fin
    exact call_lenD pins s σ H _ us Q I r ⟨_, _, rfl, ha, by rw [kl ra]; exact k _ F H _ (Grow.refl sm) (Val.of (.int _)) h⟩
  · obtain ⟨v, rfl, b1⟩ := b.one
    obtain ⟨a, rfl, ha⟩ := b1.scr sm
    exact call_len_seq pins s σ H _ us Q I r ⟨_, _, rfl, .inl ha, by rw [List.length_map]; exact k _ F H _ (Grow.refl sm) (Val.of (.int _)) h⟩
  · exact h.elim
theorem b_abs : CallR X (.builtin "abs") (rcM X.K absM) := by
  intro pins s σ H xs us Q I r h
  obtain ⟨F, ds, Q2, E, sm, b, h, k⟩ := h
  unfold absM at h
  split at h
  · obtain ⟨v, rfl, b1⟩ := b.one
    cases b1.int
    exact call_abs pins s σ H _ us Q I r ⟨_, rfl, k _ F H _ (Grow.refl sm) (Val.of (.int _)) h⟩
  · exact h.elim
theorem b_list : CallR X (.type "list") (rcM X.K listM) := by
  intro pins s σ H xs us Q I r h
  obtain ⟨F, ds, Q2, E, sm, b, h, k⟩ := h
  unfold listM at h
  split at h
  · obtain ⟨v, rfl, b1⟩ := b.one
    obtain ⟨a, vs, rfl, ha, ra⟩ := b1.lst sm
    exact call_list_of pins s σ H _ us Q I r ⟨_, _, rfl, .inl (SqL.of ha), new_own sm ra h k⟩
  · obtain ⟨v, rfl, b1⟩ := b.one
    obtain ⟨a, vs, rfl, ha, ra⟩ := b1.tup sm
    exact call_list_of pins s σ H _ us Q I r ⟨_, _, rfl, .inr ha, new_own sm ra h k⟩
  · exact h.elim
theorem b_tuple : CallR X (.type "tuple") (rcM X.K tupleM) := by
  intro pins s σ H xs us Q I r h
  obtain ⟨F, ds, Q2, E, sm, b, h, k⟩ := h
  unfold tupleM at h
  split at h
  · obtain ⟨v, rfl, b1⟩ := b.one
    obtain ⟨a, vs, rfl, ha, ra⟩ := b1.lst sm
    exact call_tuple_of pins s σ H _ us Q I r ⟨_, _, rfl, .inl ⟨SqL.of ha, new_tup sm ra h k⟩⟩
  · obtain ⟨v, rfl, b1⟩ := b.one
    have hb := b1
    obtain ⟨a, vs, rfl, ha, ra⟩ := b1.tup sm
    refine call_tuple_of pins s σ H _ us Q I r ⟨_, _, rfl, .inr ⟨ha, ?_⟩⟩
    rcases hb with q | ⟨_, _, o⟩
    · exact k _ F H _ (Grow.refl sm) (Val.of q) h
    · exact o.elim
  · exact h.elim
theorem b_all (hc : X.calm = true) : CallR X (.builtin "all") (rcM X.K allM) := by
  intro pins s σ H xs us Q I r h
  obtain ⟨F, ds, Q2, E, sm, b, h, k⟩ := h
  unfold allM at h
  split at h
  · obtain ⟨v, rfl, b1⟩ := b.one
    obtain ⟨a, vs, rfl, ha, ra⟩ := b1.lst sm
    split at h
    · rename_i bs e
      cases ra.bls e
      exact cr_all hc pins s σ H _ us Q I r ⟨_, _, rfl, SqL.of ha, k _ F H _ (Grow.refl sm) (Val.of (.bl _)) h⟩
    · exact h.elim
  · exact h.elim
theorem b_any (hc : X.calm = true) : CallR X (.builtin "any") (rcM X.K anyM) := by
  intro pins s σ H xs us Q I r h
  obtain ⟨F, ds, Q2, E, sm, b, h, k⟩ := h
  unfold anyM at h
  split at h
  · obtain ⟨v, rfl, b1⟩ := b.one
    obtain ⟨a, vs, rfl, ha, ra⟩ := b1.lst sm
    split at h
    · rename_i bs e
      cases ra.bls e
      exact cr_any hc pins s σ H _ us Q I r ⟨_, _, rfl, SqL.of ha, k _ F H _ (Grow.refl sm) (Val.of (.bl _)) h⟩
    · exact h.elim
  · exact h.elim
theorem b_sum (hc : X.calm = true) : CallR X (.builtin "sum") (rcM X.K sumM) := by
  intro pins s σ H xs us Q I r h
  obtain ⟨F, ds, Q2, E, sm, b, h, k⟩ := h
  unfold sumM at h
  split at h
  · obtain ⟨v, rfl, b1⟩ := b.one
    obtain ⟨a, vs, rfl, ha, ra⟩ := b1.lst sm
    split at h
    · rename_i bs e
      cases ra.ints e
      exact cr_sum hc pins s σ H _ us Q I r ⟨_, _, rfl, SqL.of ha, k _ F H _ (Grow.refl sm) (Val.of (.int _)) h⟩
    · exact h.elim
  · exact h.elim
theorem b_max (hc : X.calm = true) : CallR X (.builtin "max") (rcM X.K maxM) := by
  intro pins s σ H xs us Q I r h
  obtain ⟨F, ds, Q2, E, sm, b, h, k⟩ := h
  unfold maxM at h
  split at h
  · obtain ⟨v, rfl, b1⟩ := b.one
    obtain ⟨a, vs, rfl, ha, ra⟩ := b1.lst sm
    split at h
    · rename_i n ns e
      cases ra.ints e
      obtain ⟨s1, s2⟩ := topI_spec ns n
      refine cr_max hc pins s σ H _ us Q I r ⟨_, n :: ns, rfl, SqL.of ha, Nat.succ_pos _, fun z hz hle => ?_⟩
      have e2 : z = topI n ns := Int.le_antisymm (s2 z hz) (hle _ s1)
      rw [e2]
      exact k _ F H _ (Grow.refl sm) (Val.of (.int _)) h
    · exact h.elim
  · obtain ⟨v, u, rfl, b1, b2⟩ := b.two
    cases b1.int; cases b2.int
    exact call_max2 hc pins s σ H _ us Q I r ⟨_, _, rfl, k _ F H _ (Grow.refl sm) (Val.of (.int _)) h⟩
  · exact h.elim
theorem b_min (hc : X.calm = true) : CallR X (.builtin "min") (rcM X.K minM) := by
  intro pins s σ H xs us Q I r h
  obtain ⟨F, ds, Q2, E, sm, b, h, k⟩ := h
  unfold minM at h
  split at h
  · obtain ⟨v, rfl, b1⟩ := b.one
    obtain ⟨a, vs, rfl, ha, ra⟩ := b1.lst sm
    split at h
    · rename_i n ns e
      cases ra.ints e
      obtain ⟨s1, s2⟩ := lowI_spec ns n
      refine cr_min hc pins s σ H _ us Q I r ⟨_, n :: ns, rfl, SqL.of ha, Nat.succ_pos _, fun z hz hle => ?_⟩
      have e2 : z = lowI n ns := Int.le_antisymm (hle _ s1) (s2 z hz)
      rw [e2]
      exact k _ F H _ (Grow.refl sm) (Val.of (.int _)) h
    · exact h.elim
  · obtain ⟨v, u, rfl, b1, b2⟩ := b.two
    cases b1.int; cases b2.int
    exact call_min2 hc pins s σ H _ us Q I r ⟨_, _, rfl, k _ F H _ (Grow.refl sm) (Val.of (.int _)) h⟩
  · exact h.elim
theorem b_sorted : CallR X (.builtin "sorted") (rcM X.K sortedM) := by
  intro pins s σ H xs us Q I r h
  obtain ⟨F, ds, Q2, E, sm, b, h, k⟩ := h
  unfold sortedM at h
  split at h
  · obtain ⟨v, rfl, b1⟩ := b.one
    obtain ⟨a, vs, rfl, ha, ra⟩ := b1.lst sm
    split at h
    · rename_i ns e
      cases ra.ints e
      refine cr_sortedI pins s σ H _ us Q I r ⟨_, ns, rfl, SqL.of ha, fun ns' p pm so hp => ?_⟩
      have e2 : ns' = srtI ns := sorted_one (pm.trans (srtI_perm ns).symm) so (srtI_sorted ns)
      rw [e2]
      exact new_own sm (repL_ints _) h k p hp
    · exact h.elim
  · exact h.elim
theorem b_repr (gd : X.A.guards = some []) (hu : X.A.units + 110 < cLine) : CallR X (.builtin "repr") (rcM X.K reprM) := by
  intro pins s σ H xs us Q I r h
  obtain ⟨F, ds, Q2, E, sm, b, h, k⟩ := h
  unfold reprM at h
  split at h
  · rename_i d
    obtain ⟨v, rfl, b1⟩ := b.one
    split at h
    · rename_i p e
      obtain ⟨h0, h1, h2, h3, q⟩ := h
      have rp := b1.rep sm
      obtain ⟨u, rfl, rv⟩ := Vals.one r
      have dp := rp.dp e
      have fin : Q (.str p.shown) H := k _ F H (.str p.shown, false) (Grow.refl sm) (Val.of (.str _)) q
      obtain ⟨as, rds⟩ := Dp.reads I p v u dp rv
      cases dp with
      | non =>
        cases rv
        exact P.repr_of_none ⟨.str _, H, I.tok _, ⟨_, rfl⟩, by simpa only [PyData.shown] using fin⟩
      | bl b =>
        cases rv
        exact P.repr_of_bool ⟨.str _, H, I.tok _, ⟨_, rfl⟩, by simpa only [PyData.shown] using fin⟩
      | int i =>
        obtain ⟨t, rfl⟩ := rv
        exact P.repr_of_int (by simpa [PyData.showable] using h1) ⟨.str _, H, I.tok _, ⟨_, rfl⟩, by simpa only [PyData.shown] using fin⟩
      | str x =>
        obtain ⟨t, rfl⟩ := rv
        exact P.repr_of_str ⟨.str _, H, I.tok _, ⟨_, rfl⟩, by simpa only [PyData.shown] using fin⟩ (by simpa only [PyData.shown] using h2)
      | lst hs ha =>
        cases rv
        exact repr_of_reads' rds h1 (PyData.noDict_hsm (PyData.hasDict_of_canLay _ h0)) gd (by omega) (fun _ _ e => e) (fun h' u tk hk => ⟨.str _, H, I.kept (t' := tk) hk, ⟨_, rfl⟩, fin⟩) h2
      | tup hs ha =>
        cases rv
        exact repr_of_reads' rds h1 (PyData.noDict_hsm (PyData.hasDict_of_canLay _ h0)) gd (by omega) (fun _ _ e => e) (fun h' u tk hk => ⟨.str _, H, I.kept (t' := tk) hk, ⟨_, rfl⟩, fin⟩) h2
    · exact h.elim
  · exact h.elim
end
end DL

namespace L2
open PySem
theorem PI.imp {X : Cx} {tg it : Expr} {t t' : TI} (h : PI X tg it t) (i : ∀ σ H Q, t' σ H Q → t σ H Q) : PI X tg it t' := ⟨fun pins s σ H Q I hw => h.run pins s σ H Q I (i σ H Q hw)⟩
end L2
namespace DL
open PySem L2

/-! ### what is walked, by its items -/
abbrev CI := Env → M (List D)
def ItOk (K : PySem.W.Frag) (F : Hp) (J : It) (ds : List D) : Prop := ∀ F1 H1, Same F F1 → Same F1 H1 →
  J.stop ds.length H1 ∧ ∀ i d, ds[i]? = some d → J.go i H1 ∧ ∀ x H2, J.yld i H1 x H2 → ∃ F2, Grow F1 H1 F2 H2 ∧ Rep K F2 x d
def rdI (K : PySem.W.Frag) (E : Xn → Prop) (c : CI) : TI := fun σ H R => ∃ B F0 F ρ Q, REnv K B F0 F H σ ρ ∧ c ρ Q E ∧ ∀ J H' F' ds, Grow F H F' H' → ItOk K F' J ds → Q ds → R J H'
theorem lt_of_at {α : Type} {ds : List α} {i : Nat} {d : α} (e : ds[i]? = some d) : i < ds.length := by
  rcases Nat.lt_or_ge i ds.length with h | h
  · exact h
  · rw [List.getElem?_eq_none h] at e; cases e
section
variable {K : PySem.W.Frag} {F : Hp} {J : It} {ds : List D} {G : Hp → Prop}
theorem ItOk.of_at {xs : List V} (w : Walk J ds.length G (YAt xs)) (g : ∀ H1, Same F H1 → G H1) (r : RepL K F xs ds) : ItOk K F J ds := by
  intro F1 H1 s1 s2
  have g1 := g H1 (s1.trans s2)
  refine ⟨w.stops _ g1, fun i d e => ⟨w.goes _ _ (lt_of_at e) g1, fun x H2 y => ?_⟩⟩
  obtain ⟨rfl, hx⟩ := w.yields _ _ _ _ (lt_of_at e) g1 y
  obtain ⟨v, h1, h2⟩ := r.get e
  rw [hx] at h1; cases h1
  exact ⟨F1, Grow.refl s2, h2.mono s1⟩
theorem ItOk.of_fn {f : Nat → V} (w : Walk J ds.length G (YFn f)) (g : ∀ H1, Same F H1 → G H1) (r : ∀ i d, ds[i]? = some d → ∀ F1, Same F F1 → Rep K F1 (f i) d) : ItOk K F J ds := by
  intro F1 H1 s1 s2
  have g1 := g H1 (s1.trans s2)
  refine ⟨w.stops _ g1, fun i d e => ⟨w.goes _ _ (lt_of_at e) g1, fun x H2 y => ?_⟩⟩
  obtain ⟨rfl, rfl⟩ := w.yields _ _ _ _ (lt_of_at e) g1 y
  exact ⟨F1, Grow.refl s2, r i d e F1 s1⟩
theorem ItOk.of_pair {xs ys : Nat → Option V} (w : Walk J ds.length G (YPair xs ys)) (g : ∀ H1, Same F H1 → G H1)
    (r : ∀ i d, ds[i]? = some d → ∃ a b, d = .tup [a, b] ∧ (∀ x, xs i = some x → Rep K F x a) ∧ ∀ x, ys i = some x → Rep K F x b) : ItOk K F J ds := by
  intro F1 H1 s1 s2
  have g1 := g H1 (s1.trans s2)
  refine ⟨w.stops _ g1, fun i d e => ⟨w.goes _ _ (lt_of_at e) g1, fun v H2 y => ?_⟩⟩
  obtain ⟨T, x, z, rfl, hT, rfl, e1, e2⟩ := w.yields _ _ _ _ (lt_of_at e) g1 y
  obtain ⟨a, b, rfl, ra, rb⟩ := r i d e
  have gr := Grow.new s2 hT (.tup [x, z])
  exact ⟨_, gr, .tup (SqT.of upd_same) (.cons (((ra x e1).mono s1).mono gr.f) (.cons (((rb z e2).mono s1).mono gr.f) .nil))⟩
end
theorem sqL_same {K : PySem.W.Frag} {H H' : Hp} {a : Addr} {xs : List V} (e : Same H H') (h : H a = some (.lst xs)) : SqL K H' a xs := SqL.of (e _ _ h)

def chars (x : Str) : List D := x.cps.toList.map fun c => .str ⟨#[c]⟩
def itemsM : D → M (List D)
  | .lst ds => ret ds
  | .tup ds => ret ds
  | .str x => ret (chars x)
  | .scr ns => ret (ns.map .int)
  | _ => fail
def iSeq (a : CB) : CI := fun ρ => bnd (a ρ) itemsM
section
variable {X : Cx} {E : Xn → Prop} {tg l a b c3 : Expr} {xa : CB} {cl : CL} {p pos tpos : Pos}
theorem ri_seq (ha : PE X l (rdF X.K E xa)) : PI X tg l (rdI X.K E (iSeq xa)) := by
  refine ⟨fun pins s σ H R I ⟨B, F0, F, ρ, Q, re, h, k⟩ => ?_⟩
  refine thn (ha.run pins s σ H (fun v H1 => ∃ F1 d, Grow F H F1 H1 ∧ Rep X.K F1 v d ∧ itemsM d Q E) I ⟨B, F0, F, ρ, _, re, h, fun v H1 F1 d g1 r1 q1 => ⟨F1, d, g1, r1, q1⟩⟩) ?_
  rintro v s1 ⟨x, H1, I1, r1, F1, d, g1, rp, q⟩
  cases rp with
  | lst h1 rl =>
    cases r1
    rename_i la lxs lds
    obtain ⟨its, rv, pp, hz⟩ := I1.list (SqL.of (g1.fh _ _ h1))
    refine wpAny_pyIter_list pp.isList (pi_one (tk := s1.toks) I1 _ (turn_list la _) ⟨_, Heap.get?_push_size _ rfl, rfl, rfl⟩ ?_)
    exact k _ H1 F1 _ g1 (ItOk.of_at (G := fun H => SqL X.K H la lxs) (rl.length ▸ walk_list) (fun H s => sqL_same s h1) rl) q
  | tup h1 rl =>
    cases r1
    rename_i la lxs lds
    obtain ⟨its, rv, pp, hz⟩ := I1.tuple (sqT_same g1.fh h1)
    refine wpAny_pyIter_tuple (show s1.heap.IsTuple la its.toArray from pp) (pi_one (tk := s1.toks) I1 _ (turn_tuple la _) ⟨_, Heap.get?_push_size _ rfl, rfl, rfl⟩ ?_)
    exact k _ H1 F1 _ g1 (ItOk.of_at (G := fun H => SqT X.K H la lxs) (rl.length ▸ walk_tup) (fun H s => sqT_same s h1) rl) q
  | @scr la ns h1 =>
    cases r1
    obtain ⟨its, rv, pp, hz⟩ := I1.list (h1.mono g1.fh).sql
    refine wpAny_pyIter_list pp.isList (pi_one (tk := s1.toks) I1 _ (turn_list la _) ⟨_, Heap.get?_push_size _ rfl, rfl, rfl⟩ ?_)
    have hl : (ns.map D.int).length = (ns.map V.int).length := by rw [List.length_map, List.length_map]
    exact k _ H1 F1 _ g1 (ItOk.of_at (G := fun H => SqL X.K H la (ns.map V.int)) (by rw [hl]; exact walk_list) (fun H s => (h1.mono s).sql) (repL_intsD _)) q
  | str z =>
    obtain ⟨t, rfl⟩ := r1
    have w : Walk (Its z) (chars z).length (fun _ => True) (YFn fun i => .str ⟨#[z.cps.toList.getD i 0]⟩) := by
      have hl : (chars z).length = z.cps.size := by simp [chars]
      rw [hl]
      refine walk_str.mono (fun _ h => h) fun i H x H' hi _ y => ?_
      obtain ⟨rfl, c, hc, rfl⟩ := y
      refine ⟨rfl, ?_⟩
      have hc2 : z.cps.toList[i]? = some c := by simpa using hc
      show _ = V.str ⟨#[z.cps.toList.getD i 0]⟩
      rw [List.getD_eq_getElem?_getD, hc2]
      rfl
    have io : ItOk X.K F1 (Its z) (chars z) := ItOk.of_fn w (fun _ _ => trivial) fun i d e F2 _ => by
      unfold chars at e
      rw [List.getElem?_map] at e
      rw [List.getD_eq_getElem?_getD]
      cases q2 : z.cps.toList[i]? with
      | none => rw [q2] at e; cases e
      | some c => rw [q2] at e; cases e; exact .str _
    cases hall : z.cps.all (· < 128)
    · exact wpAny_pyIter_wide hall (pi_one (tk := s1.toks) I1 _ (turn_str _ z t "str_iterator" (.inr rfl)) ⟨_, Heap.get?_push_size _ rfl, rfl, rfl⟩ (k _ H1 F1 _ g1 io q))
    · exact wpAny_pyIter_ascii hall (pi_one (tk := s1.toks) I1 _ (turn_str _ z t "str_ascii_iterator" (.inl rfl)) ⟨_, Heap.get?_push_size _ rfl, rfl, rfl⟩ (k _ H1 F1 _ g1 io q))
  | _ => exact (show False from q).elim

/-! ### ranges -/
def upto (lo : Int) (c : Int) (n : Nat) : List D := (List.range n).map fun i => .int (lo + (i : Nat) * c)
theorem upto_len (lo c : Int) (n : Nat) : (upto lo c n).length = n := by simp [upto]
theorem upto_at {lo c : Int} {n i : Nat} {d : D} (e : (upto lo c n)[i]? = some d) : d = .int (lo + (i : Nat) * c) := by
  unfold upto at e
  rw [List.getElem?_map] at e
  cases q : (List.range n)[i]? with
  | none => rw [q] at e; cases e
  | some j =>
    rw [q] at e
    cases e
    have hj := lt_of_at q
    rw [List.getElem?_eq_getElem hj] at q
    cases q
    simp
theorem itOk_rng {K : PySem.W.Frag} {F : Hp} (lo : Int) (n : Nat) : ItOk K F (Itr lo n) (upto lo 1 n) :=
  ItOk.of_fn (G := fun _ => True) (f := fun i => .int (lo + i)) (by rw [upto_len]; exact walk_range) (fun _ _ => trivial) fun i d e F1 _ => by rw [upto_at e, Int.mul_one]; exact .int _
theorem itOk_rngC {K : PySem.W.Frag} {F : Hp} (lo c : Int) (n : Nat) : ItOk K F (Itc lo c n) (upto lo c n) :=
  ItOk.of_fn (G := fun _ => True) (f := fun i => .int (lo + (i : Nat) * c)) (by rw [upto_len]; exact walk_rangeC) (fun _ _ => trivial) fun i d e F1 _ => by rw [upto_at e]; exact .int _
def rangeM : List D → M (List D)
  | [.int j] => fun Q _ => (-(2 ^ 62) ≤ j ∧ j < 2 ^ 62) ∧ Q (upto 0 1 j.toNat)
  | [.int i, .int j] => fun Q _ => (-(2 ^ 62) ≤ i ∧ i < 2 ^ 62 ∧ -(2 ^ 62) ≤ j ∧ j < 2 ^ 62) ∧ Q (upto i 1 (j - i).toNat)
  | [.int i, .int j, .int c] => fun Q _ => ∃ n, RgC i j c n ∧ Q (upto i c n)
  | _ => fail
def iRng (l : CL) : CI := fun ρ => bnd (l ρ) rangeM
theorem RepL.one {K : PySem.W.Frag} {F : Hp} {v : V} {ds : List D} (r : RepL K F [v] ds) : ∃ d, ds = [d] ∧ Rep K F v d := by
  cases r with | cons r t => cases t; exact ⟨_, rfl, r⟩
theorem RepL.two {K : PySem.W.Frag} {F : Hp} {v w : V} {ds : List D} (r : RepL K F [v, w] ds) : ∃ d e, ds = [d, e] ∧ Rep K F v d ∧ Rep K F w e := by
  cases r with | cons r t => cases t with | cons r2 t => cases t; exact ⟨_, _, rfl, r, r2⟩
theorem RepL.three {K : PySem.W.Frag} {F : Hp} {v w u : V} {ds : List D} (r : RepL K F [v, w, u] ds) : ∃ d e f, ds = [d, e, f] ∧ Rep K F v d ∧ Rep K F w e ∧ Rep K F u f := by
  cases r with | cons r t => cases t with | cons r2 t => cases t with | cons r3 t => cases t; exact ⟨_, _, _, rfl, r, r2, r3⟩
theorem len1 {α : Type} {l : List α} (h : l.length = 1) : ∃ a, l = [a] := by
  match l, h with
  | [a], _ => exact ⟨a, rfl⟩
theorem len2 {α : Type} {l : List α} (h : l.length = 2) : ∃ a b, l = [a, b] := by
  match l, h with
  | [a, b], _ => exact ⟨a, b, rfl⟩
theorem len3 {α : Type} {l : List α} (h : l.length = 3) : ∃ a b c, l = [a, b, c] := by
  match l, h with
  | [a, b, c], _ => exact ⟨a, b, c, rfl⟩
theorem ri_range1 (hg : Gl X "range") (hm : X.mg "range" = none) (ha : PA X [a] (rdL X.K E 1 cl)) (hs : starEach [a] X.env = [(false, eval a X.env)]) : PI X tg (.Call (.Name "range" p) [a] [] pos) (rdI X.K E (iRng cl)) :=
  (pi_range1 hg hm ha hs).imp fun σ H R ⟨B, F0, F, ρ, Q, re, h, k⟩ => ⟨B, F0, F, ρ, _, re, h, fun vs H1 F1 ds g1 r1 hn q => by
    obtain ⟨v, rfl⟩ := len1 hn
    obtain ⟨d, rfl, rd⟩ := r1.one
    cases rd with
    | int j => exact ⟨j, rfl, q.1.1, q.1.2, k _ H1 F1 _ g1 (itOk_rng 0 _) q.2⟩
    | _ => exact (show False from q).elim⟩
theorem ri_range2 (hg : Gl X "range") (hm : X.mg "range" = none) (ha : PA X [a, b] (rdL X.K E 2 cl)) (hs : starEach [a, b] X.env = [(false, eval a X.env), (false, eval b X.env)]) (hs2 : starEach [b] X.env = [(false, eval b X.env)]) :
    PI X tg (.Call (.Name "range" p) [a, b] [] pos) (rdI X.K E (iRng cl)) :=
  (pi_range2 hg hm ha hs hs2).imp fun σ H R ⟨B, F0, F, ρ, Q, re, h, k⟩ => ⟨B, F0, F, ρ, _, re, h, fun vs H1 F1 ds g1 r1 hn q => by
    obtain ⟨v, w, rfl⟩ := len2 hn
    obtain ⟨d, e, rfl, rd, re⟩ := r1.two
    cases rd with
    | int i => cases re with
      | int j => exact ⟨i, j, rfl, q.1, k _ H1 F1 _ g1 (itOk_rng i _) q.2⟩
      | _ => exact (show False from q).elim
    | _ => exact (show False from q).elim⟩
theorem ri_range3 (hg : Gl X "range") (hm : X.mg "range" = none) (ha : PA X [a, b, c3] (rdL X.K E 3 cl)) (hs : starEach [a, b, c3] X.env = (false, eval a X.env) :: starEach [b, c3] X.env) (hpl : (backTo pos (starEach [b, c3] X.env)).any (·.1) = false) :
    PI X tg (.Call (.Name "range" p) [a, b, c3] [] pos) (rdI X.K E (iRng cl)) :=
  (pi_range3 hg hm ha hs hpl).imp fun σ H R ⟨B, F0, F, ρ, Q, re, h, k⟩ => ⟨B, F0, F, ρ, _, re, h, fun vs H1 F1 ds g1 r1 hn q => by
    obtain ⟨v, w, u, rfl⟩ := len3 hn
    obtain ⟨d, e, f, rfl, rd, re, rf⟩ := r1.three
    cases rd with
    | int i => cases re with
      | int j => cases rf with
        | int c =>
          obtain ⟨n, hc, q⟩ := q
          exact ⟨i, j, c, n, rfl, hc, k _ H1 F1 _ g1 (itOk_rngC i c n) q⟩
        | _ => exact (show False from q).elim
      | _ => exact (show False from q).elim
    | _ => exact (show False from q).elim⟩

/-! ### pairs -/
def pairs : List D → List D → List D
  | a :: as, b :: bs => .tup [a, b] :: pairs as bs
  | _, _ => []
def enumD (ds : List D) : List D := pairs (upto 0 1 ds.length) ds
theorem pairs_len : ∀ as bs : List D, (pairs as bs).length = min as.length bs.length
  | a :: as, b :: bs => by simp [pairs, pairs_len as bs]
  | [], _ => by simp [pairs]
  | _ :: _, [] => by simp [pairs]
theorem pairs_at : ∀ {as bs : List D} {i : Nat} {d : D}, (pairs as bs)[i]? = some d → ∃ a b, d = .tup [a, b] ∧ as[i]? = some a ∧ bs[i]? = some b
  | a :: as, b :: bs, 0, d, e => by simp [pairs] at e; exact ⟨a, b, e.symm, rfl, rfl⟩
  | a :: as, b :: bs, i + 1, d, e => by
    obtain ⟨x, y, h⟩ := pairs_at (as := as) (bs := bs) (i := i) (d := d) (by simpa [pairs] using e)
    exact ⟨x, y, by simpa using h⟩
  | [], _, _, _, e => by simp [pairs] at e
  | _ :: _, [], _, _, e => by simp [pairs] at e
theorem enumD_len (ds : List D) : (enumD ds).length = ds.length := by simp [enumD, pairs_len, upto_len]
end
end DL

namespace DL
open PySem L2

/-! ### storing -/
section
variable {K : PySem.W.Frag} {B F0 F H : Hp} {σ : L2.St} {ρ : Env}
theorem set_at {α : Type} {l : List α} {i j : Nat} {a b : α} (e : (l.set i a)[j]? = some b) : (j = i ∧ i < l.length ∧ b = a) ∨ (j ≠ i ∧ l[j]? = some b) := by
  by_cases h : i = j
  · subst h
    by_cases hi : i < l.length
    · rw [List.getElem?_set_self hi] at e; cases e; exact .inl ⟨rfl, hi, rfl⟩
    · rw [List.getElem?_eq_none (by simpa using hi)] at e; cases e
  · rw [List.getElem?_set_ne h] at e; exact .inr ⟨fun q => h q.symm, e⟩
theorem REnv.put (r : REnv K B F0 F H σ ρ) (i : Nat) {o : Option V} {c : Cell} (hc : RepC K B F H o c) (hd : ∀ d z p, c = .ow d z → o = some (.ref p) → ∀ j e y, j ≠ i → ρ[j]? = some (.ow e y) → σ[j]? ≠ some (some (.ref p))) :
    REnv K B F0 F H (σ.set i o) (ρ.set i c) where
  bh := r.bh
  f0 := r.f0
  fh := r.fh
  fr := r.fr
  len := by rw [List.length_set, List.length_set, r.len]
  cell := fun j c' e => by
    rcases set_at e with ⟨rfl, hi, rfl⟩ | ⟨hj, e⟩
    · exact ⟨o, List.getElem?_set_self (by rw [r.len]; exact hi), hc⟩
    · rw [List.getElem?_set_ne (Ne.symm hj)]; exact r.cell j c' e
  dis := fun j k d e z y p hjk ej ek es => by
    rcases set_at ej with ⟨rfl, hi, hq⟩ | ⟨hj, ej2⟩
    · rcases set_at ek with ⟨rfl, _, _⟩ | ⟨hk, ek2⟩
      · exact absurd rfl hjk
      · rw [List.getElem?_set_self (by rw [r.len]; exact hi)] at es
        rw [List.getElem?_set_ne (Ne.symm hk)]
        exact hd d z p hq.symm (Option.some.inj es) k e y hk ek2
    · rw [List.getElem?_set_ne (Ne.symm hj)] at es
      rcases set_at ek with ⟨rfl, hi, hq⟩ | ⟨hk, ek2⟩
      · intro w
        rw [List.getElem?_set_self (by rw [r.len]; exact hi)] at w
        exact hd e y p hq.symm (Option.some.inj w) j d z hj ej2 es
      · rw [List.getElem?_set_ne (Ne.symm hk)]
        exact r.dis j k d e z y p hjk ej2 ek2 es
theorem REnv.put_sh (r : REnv K B F0 F H σ ρ) (i : Nat) {v : V} {d : D} (h : Rep K F v d) : REnv K B F0 F H (σ.set i (some v)) (ρ.set i (.sh d)) :=
  r.put i ⟨v, rfl, h⟩ fun d z p e => by cases e
theorem REnv.put_no (r : REnv K B F0 F H σ ρ) (i : Nat) {o : Option V} : REnv K B F0 F H (σ.set i o) (ρ.set i .no) :=
  r.put i trivial fun d z p e => by cases e
/-- less is known -/
theorem REnv.forget (r : REnv K B F0 F H σ ρ) (i : Nat) : REnv K B F0 F H σ (ρ.set i .no) := by
  have q := r.put_no i (o := (σ[i]?).getD none)
  have e : σ.set i ((σ[i]?).getD none) = σ := by
    apply List.ext_getElem?
    intro j
    by_cases h : i = j
    · subst h
      by_cases hi : i < σ.length
      · rw [List.getElem?_set_self hi, List.getElem?_eq_getElem hi]; rfl
      · rw [List.getElem?_eq_none (by simpa using hi), List.getElem?_eq_none (by simpa using hi)]
    · rw [List.getElem?_set_ne h]
  rw [e] at q
  exact q
def wipeE (ρ : Env) : List Nat → Env
  | [] => ρ
  | v :: vs => (wipeE ρ vs).set v .no
theorem REnv.wipe (r : REnv K B F0 F H σ ρ) : ∀ vs : List Nat, REnv K B F0 F H (L2.wipe σ vs) (wipeE ρ vs)
  | [] => r
  | v :: vs => (REnv.wipe r vs).put_no v
theorem wipe_in {σ : L2.St} {i : Nat} : ∀ {vs : List Nat}, i ∈ vs → i < σ.length → (L2.wipe σ vs)[i]? = some none
  | v :: vs, h, hi => by
    unfold L2.wipe
    by_cases e : v = i
    · subst e; rw [List.getElem?_set_self (by rw [wipe_length]; exact hi)]
    · rw [List.getElem?_set_ne e]
      exact wipe_in (by rcases List.mem_cons.mp h with q | q; exact absurd q.symm e; exact q) hi
theorem wipe_eq {σ σ' : L2.St} {vs : List Nat} (hl : σ'.length = σ.length) (h : ∀ i, i ∉ vs → σ'[i]? = σ[i]?) : L2.wipe σ' vs = L2.wipe σ vs := by
  apply List.ext_getElem?
  intro i
  by_cases hi : i ∈ vs
  · by_cases hl2 : i < σ.length
    · rw [wipe_in hi hl2, wipe_in hi (by rw [hl]; exact hl2)]
    · rw [List.getElem?_eq_none (by rw [wipe_length]; omega), List.getElem?_eq_none (by rw [wipe_length]; omega)]
  · rw [wipe_out hi, wipe_out hi, h i hi]
theorem wipe_idem {σ : L2.St} {vs : List Nat} : L2.wipe (L2.wipe σ vs) vs = L2.wipe σ vs :=
  wipe_eq (wipe_length _ _) fun i hi => wipe_out hi
end

/-! ### targets -/
abbrev CG := D → Env → M Env
def rdG (K : PySem.W.Frag) (E : Xn → Prop) (sl : List Nat) (g : CG) : TG := fun v σ H Q' => ∃ B F0 F ρ Q d, REnv K B F0 F H σ ρ ∧ Rep K F v d ∧ g d ρ Q E ∧
  ∀ σ' ρ', σ'.length = σ.length → (∀ i, i ∉ sl → σ'[i]? = σ[i]?) → REnv K B F0 F H σ' ρ' → Q ρ' → Q' σ' H
def rdGs (K : PySem.W.Frag) (E : Xn → Prop) (sl : List Nat) (g : List D → Env → M Env) : TGs := fun vs σ H Q' => ∃ B F0 F ρ Q ds, REnv K B F0 F H σ ρ ∧ RepL K F vs ds ∧ g ds ρ Q E ∧
  ∀ σ' ρ', σ'.length = σ.length → (∀ i, i ∉ sl → σ'[i]? = σ[i]?) → REnv K B F0 F H σ' ρ' → Q ρ' → Q' σ' H
def gNm (i : Nat) : CG := fun d ρ => ret (ρ.set i (.sh d))
def gsNil : List D → Env → M Env
  | [], ρ => ret ρ
  | _ :: _, _ => fail
def gsCons (g : CG) (gs : List D → Env → M Env) : List D → Env → M Env
  | d :: ds, ρ => bnd (g d ρ) (gs ds)
  | [], _ => fail
def gTp (n : Nat) (gs : List D → Env → M Env) : CG
  | .tup ds, ρ => fun Q E => ds.length = n ∧ gs ds ρ Q E
  | _, _ => fail
section
variable {X : Cx} {E : Xn → Prop} {pos : Pos} {e : Expr} {es : List Expr}
theorem PG.imp {X : Cx} {e : Expr} {t t' : TG} (h : PG X e t) (i : ∀ v σ H Q, t' v σ H Q → t v σ H Q) : PG X e t' := ⟨fun pins s σ H v u Q I r hw => h.run pins s σ H v u Q I r (i v σ H Q hw)⟩
theorem PGs.imp {X : Cx} {e : List Expr} {t t' : TGs} (h : PGs X e t) (i : ∀ v σ H Q, t' v σ H Q → t v σ H Q) : PGs X e t' := ⟨fun pins s σ H v u Q I r hw => h.run pins s σ H v u Q I r (i v σ H Q hw)⟩
theorem rg_name {i : Nat} {x : Str} (hN : X.N.Nodup) (hi : X.N[i]? = some x) (hx : Loc X.env.scope x) (hf : X.fn x = true ∨ X.env.scope.names.lookup x = some .local) : PG X (.Name x pos) (rdG X.K E [i] (gNm i)) :=
  PG.imp (pg_name hN hi hx hf) fun v σ H Q' ⟨B, F0, F, ρ, Q, d, re, r, q, k⟩ => by
    refine k _ _ (by rw [List.length_set]) (fun j hj => ?_) (re.put_sh i r) q
    rw [List.getElem?_set_ne (by simpa using Ne.symm (by simpa using hj))]
theorem rgs_nil : PGs X [] (rdGs X.K E [] gsNil) := PGs.imp pgs_nil fun v σ H Q' ⟨B, F0, F, ρ, Q, ds, re, r, q, k⟩ => by
  cases r with
  | nil => exact ⟨rfl, k σ ρ rfl (fun _ _ => rfl) re q⟩
  | cons _ _ => exact (show False from q).elim
theorem rgs_cons {sl sl2 : List Nat} {g : CG} {gs : List D → Env → M Env} (h1 : PG X e (rdG X.K E sl g)) (h2 : PGs X es (rdGs X.K E sl2 gs)) (hs : (assignEach (e :: es) X.env).map (·.2) = assign e X.env :: (assignEach es X.env).map (·.2)) :
    PGs X (e :: es) (rdGs X.K E (sl ++ sl2) (gsCons g gs)) := PGs.imp (pgs_cons h1 h2 hs) fun v σ H Q' ⟨B, F0, F, ρ, Q, ds, re, r, q, k⟩ => by
  cases r with
  | nil => exact (show False from q).elim
  | cons r t =>
    refine ⟨_, _, rfl, B, F0, F, ρ, _, _, re, r, q, fun σ' ρ' l1 k1 re1 q1 => ⟨B, F0, F, ρ', _, _, re1, t, q1, fun σ2 ρ2 l2 k2 re2 q2 => k σ2 ρ2 (l2.trans l1) (fun i hi => ?_) re2 q2⟩⟩
    rw [List.mem_append, not_or] at hi
    rw [k2 i hi.2, k1 i hi.1]
theorem rg_tup {k n : Nat} {sl : List Nat} {gs : List D → Env → M Env} (hc : X.calm = true) (h : PGs X es (rdGs X.K E sl gs)) (hn : (assignEach es X.env).length = n) (hst : (assignEach es X.env).findIdx? (·.1) = none) :
    PG X (.Tuple es k pos) (rdG X.K E sl (gTp n gs)) := PG.imp (pg_tup hc h hn hst) fun v σ H Q' ⟨B, F0, F, ρ, Q, d, re, r, q, k⟩ => by
  cases r with
  | tup h1 r1 => exact ⟨_, _, rfl, sqT_same re.fh h1, by rw [r1.length]; exact q.1, B, F0, F, ρ, Q, _, re, r1, q.2, k⟩
  | _ => exact (show False from q).elim
end

/-! ### list comprehensions -/
def tYesD : CT := fun _ => ret true
def lcM (g : CG) (t : CT) (e : CB) (ρ : Env) : List D → M (List D)
  | [] => ret []
  | d :: ds => bnd (g d ρ) fun ρ' => bnd (t ρ') fun b => if b = true then bnd (e ρ') fun x => bnd (lcM g t e ρ ds) fun r => ret (x :: r) else lcM g t e ρ ds
def cLc (vs : List Nat) (it : CI) (g : CG) (t : CT) (e : CB) : CV := fun ρ => bnd (it ρ) fun ds Q E => ds.length ≤ sizeLine ∧ lcM g t e (wipeE ρ vs) ds (fun r => Q (.lst r, true)) E
section
variable {X : Cx} {E : Xn → Prop} {pos : Pos} {elt tg iter : Expr} {ifs : List Expr}
theorem rts_nil : PTs X [] (rdT X.K E tYesD) := ⟨fun pins s σ H Q' I ⟨B, F0, F, ρ, Q, re, h, k⟩ => (pts_nil (X := X)).run pins s σ H Q' I (k true H F re.gr h)⟩
theorem lc_imp {K : PySem.W.Frag} {ci : CI} {g : CG} {t : CT} {xe : CB} {vs : List Nat} {sl : List Nat} {σ : L2.St} {H : Hp} {Q' : VK} (hsl : ∀ i ∈ sl, i ∈ vs) (h : rdV K E (cLc vs ci g t xe) σ H Q') :
    tLc (rdI K E ci) (rdG K E sl g) (rdT K E t) (rdF K E xe) vs σ H Q' := by
  obtain ⟨B, F0, F, ρ, Q, re, h, k⟩ := h
  refine ⟨B, F0, F, ρ, _, re, h, fun J H1 F1 ds g1 io q => ?_⟩
  obtain ⟨hsz, q⟩ := q
  intro Dn hD
  refine ⟨fun i m H2 => m = ds.length - i ∧ i ≤ ds.length ∧ ∃ F2 acc out, Grow F1 H1 F2 H2 ∧ F2 Dn = none ∧ H2 Dn = some (.lst acc) ∧ RepL K F2 acc out ∧ out.length ≤ i ∧ lcM g t xe (wipeE ρ vs) (ds.drop i) (fun r => Q (.lst (out ++ r), true)) E,
    ⟨ds.length, by simp, Nat.zero_le _, F1, [], [], Grow.own g1.fh hD _, g1.fh.free hD, upd_same, .nil, Nat.zero_le _, q⟩, ?_⟩
  rintro i m H2 ⟨rfl, hi, F2, acc, out, g2, fD, hDn, ra, ho, q2⟩
  obtain ⟨i1, i2⟩ := io F2 H2 g2.f g2.fh
  by_cases hlt : i < ds.length
  · have e : ds[i]? = some ds[i] := List.getElem?_eq_getElem hlt
    obtain ⟨go, yl⟩ := i2 i _ e
    rw [List.drop_eq_getElem_cons hlt] at q2
    refine .inr ⟨go, fun H' => ∃ F2 acc out, Grow F1 H1 F2 H' ∧ F2 Dn = none ∧ H' Dn = some (.lst acc) ∧ RepL K F2 acc out ∧ out.length ≤ i + 1 ∧ lcM g t xe (wipeE ρ vs) (ds.drop (i + 1)) (fun r => Q (.lst (out ++ r), true)) E,
      fun H' ⟨F3, a3, o3, w⟩ => ⟨ds.length - (i + 1), by omega, rfl, hlt, F3, a3, o3, w⟩, fun x H3 y => ?_⟩
    obtain ⟨F3, g3, r3⟩ := yl x H3 y
    have st : ∀ {F' H' : Hp}, Grow F2 H2 F' H' → F' Dn = none ∧ H' Dn = some (.lst acc) := fun {F' H'} gg => by
      refine ⟨?_, gg.h _ _ hDn⟩
      cases z : F' Dn with
      | none => rfl
      | some u =>
        rcases gg.nw Dn u z with w | w
        · rw [fD] at w; cases w
        · rw [hDn] at w; cases w
    have re3 := (re.grow ((g1.trans g2).trans g3)).wipe vs
    refine ⟨B, F0, F3, _, _, _, re3, r3, q2, fun σ4 ρ4 l4 k4 re4 q4 => ⟨?_, B, F0, F3, ρ4, _, re4, q4, fun b H5 F5 g5 q5 => ?_⟩⟩
    · rw [← wipe_idem (σ := σ)]
      exact wipe_eq l4 fun j hj => k4 j fun z => hj (hsl j z)
    · have g35 := g3.trans g5
      cases b with
      | false =>
        show ∃ F2 acc out, _
        exact ⟨F5, acc, out, g2.trans g35, (st g35).1, (st g35).2, ra.mono g35.f, Nat.le_succ_of_le ho, q5⟩
      | true =>
        show rdF K E xe σ4 H5 _
        refine ⟨B, F0, F5, ρ4, _, re4.grow g5, (show bnd (xe ρ4) _ _ E from q5), fun v H6 F6 d g6 r6 q6 => ?_⟩
        have g36 := g35.trans g6
        obtain ⟨s1, s2⟩ := st g36
        refine ⟨acc, s2, by rw [ra.length]; omega, F6, _, out ++ [d], ?_, s1, upd_same, (ra.mono g36.f).append (.cons r6 .nil), by rw [List.length_append, List.length_singleton]; omega, ?_⟩
        · have gg := g2.trans g36
          refine ⟨fun b u z => ?_, gg.f, fun b u z => ?_, gg.nw⟩
          · rw [upd_ne (ne_of_none z hD)]; exact gg.h b u z
          · rw [upd_ne (ne_of_none z s1)]; exact gg.fh b u z
        · have e2 : (fun r => Q (.lst ((out ++ [d]) ++ r), true)) = fun r => Q (.lst (out ++ (d :: r)), true) := by
            funext r; rw [List.append_assoc]; rfl
          rw [e2]
          exact q6
  · have e : i = ds.length := by omega
    subst e
    rw [List.drop_length] at q2
    have q3 : Q (.lst (out ++ []), true) := q2
    rw [List.append_nil] at q3
    exact .inl ⟨i1, k _ H2 F2 (.lst out, true) (g1.trans g2) (Val.own (g1.h.free hD) fD ⟨acc, hDn, ra⟩) q3⟩
theorem re_lc {ci : CI} {g : CG} {t : CT} {xe : CB} {sl : List Nat} {scope : Scope} {own : List (Str × Nat)} (hsl : ∀ i ∈ sl, i ∈ own.map (·.2)) (hc : X.calm = true) (hN : X.N.Nodup) (hi : PI X tg iter (rdI X.K E ci)) (ok : BlkOk X.N X.env.scope scope own)
    (hg : ∀ (s : Shared) (H : Hp) (C : Addr) (cl : List (Str × Addr)) (fp : List Addr), PG (X.blk s H scope (compEnvC scope cl C X.env) fp) tg (rdG X.K E sl g)) (ht : ∀ (s : Shared) (H : Hp) (C : Addr) (cl : List (Str × Addr)) (fp : List Addr), PTs (X.blk s H scope (compEnvC scope cl C X.env) fp) ifs (rdT X.K E t))
    (he : ∀ (s : Shared) (H : Hp) (C : Addr) (cl : List (Str × Addr)) (fp : List Addr), PE (X.blk s H scope (compEnvC scope cl C X.env) fp) elt (rdF X.K E xe)) (hs : ∀ x, foldedSetIterable iter X.env x = pure x) :
    PE X (.ListComp elt [⟨tg, iter, ifs, 0⟩] scope pos) (rdV X.K E (cLc (own.map (·.2)) ci g t xe)) :=
  (pe_lc hc hN hi ok hg ht he hs).imp fun σ H Q' h => lc_imp hsl h
end
end DL

namespace L2
open PySem
theorem PS.imp {X : Cx} {e : Stmt} {t t' : TS} (h : PS X e t) (i : ∀ D σ H, t' D σ H → t D σ H) : PS X e t' := ⟨fun pins s σ H D I hw => h.run pins s σ H D I (i D σ H hw)⟩
theorem PSs.imp {X : Cx} {e : List Stmt} {t t' : TS} (h : PSs X e t) (i : ∀ D σ H, t' D σ H → t D σ H) : PSs X e t' := ⟨fun pins s σ H D I hw => h.run pins s σ H D I (i D σ H hw)⟩
end L2
namespace DL
open PySem L2

/-! ### statements -/
structure EndD where
  nx : Env → Prop
  rt : D → Env → Prop
  bk : Env → Prop := fun _ => False
  ct : Env → Prop := fun _ => False
  ro : D → Env → Prop := fun _ _ => False
abbrev CS := Env → EndD → (Xn → Prop) → Prop
structure Lk (K : PySem.W.Frag) (B F0 : Hp) (W : EndD) (Dn : Ends) : Prop where
  nx : ∀ σ H F ρ, REnv K B F0 F H σ ρ → W.nx ρ → Dn.nx σ H
  rt : ∀ v σ H F ρ d, REnv K B F0 F H σ ρ → Rep K F v d → W.rt d ρ → Dn.rt v H
  bk : ∀ σ H F ρ, REnv K B F0 F H σ ρ → W.bk ρ → Dn.bk σ H
  ct : ∀ σ H F ρ, REnv K B F0 F H σ ρ → W.ct ρ → Dn.ct σ H
  ro : ∀ p σ H F ρ d, REnv K B F0 F H σ ρ → B p = none → F p = none → Own K F H p d → W.ro d ρ → Dn.rt (.ref p) H
def rdS (K : PySem.W.Frag) (E : Xn → Prop) (c : CS) : TS := fun Dn σ H => ∃ B F0 F ρ W, REnv K B F0 F H σ ρ ∧ c ρ W E ∧ Lk K B F0 W Dn
section
variable {K : PySem.W.Frag} {B F0 F H F' H' : Hp} {σ : L2.St} {ρ : Env}
theorem REnv.gr0 (r : REnv K B F0 F H σ ρ) : Grow F0 B F H := ⟨r.bh, r.f0, r.fh, r.fr⟩
/-- what is known now taken for the start -/
theorem REnv.base (r : REnv K B F0 F H σ ρ) : REnv K B F F H σ ρ := ⟨r.bh, Same.refl F, r.fh, fun _ _ e => .inl e, r.len, r.cell, r.dis⟩
theorem REnv.unbase {F1 : Hp} (f : Same F0 F1) (fr : ∀ a o, F1 a = some o → F0 a = some o ∨ B a = none) (r : REnv K B F1 F H σ ρ) : REnv K B F0 F H σ ρ :=
  ⟨r.bh, f.trans r.f0, r.fh, fun a o e => (r.fr a o e).elim (fun q => fr a o q) .inr, r.len, r.cell, r.dis⟩
theorem Lk.base {F1 : Hp} {W : EndD} {Dn : Ends} (f : Same F0 F1) (fr : ∀ a o, F1 a = some o → F0 a = some o ∨ B a = none) (l : Lk K B F0 W Dn) : Lk K B F1 W Dn where
  nx := fun σ H F ρ r q => l.nx σ H F ρ (r.unbase f fr) q
  bk := fun σ H F ρ r q => l.bk σ H F ρ (r.unbase f fr) q
  ct := fun σ H F ρ r q => l.ct σ H F ρ (r.unbase f fr) q
  rt := fun v σ H F ρ d re r q => l.rt v σ H F ρ d (re.unbase f fr) r q
  ro := fun p σ H F ρ d re h1 h2 h3 q => l.ro p σ H F ρ d (re.unbase f fr) h1 h2 h3 q
def cel (k : Bool) (r : D × Bool) : Cell := if (k && r.2) = true then .ow r.1 none else .sh r.1
/-- a value to be kept in a slot -/
theorem Val.keep {v : V} {r : D × Bool} (k : Bool) (g : Grow F H F' H') (h : Val K F' H' H v r) : ∃ F2, Grow F H F2 H' ∧
    ∀ {σ : L2.St} {ρ : Env} {B F0 : Hp} (i : Nat), REnv K B F0 F H σ ρ → REnv K B F0 F2 H' (σ.set i (some v)) (ρ.set i (cel k r)) := by
  by_cases hk : (k && r.2) = true
  · have hr : r.2 = true := by rw [Bool.and_eq_true] at hk; exact hk.2
    unfold Val at h
    rw [if_pos hr] at h
    obtain ⟨p, rfl, h0, hf, o⟩ := h
    refine ⟨F', g, fun {σ ρ B F0} i re => ?_⟩
    unfold cel
    rw [if_pos hk]
    refine (re.grow g).put i ⟨p, rfl, re.bh.free h0, hf, o, fun q z => by cases z⟩ fun d z p' e1 e2 j e y hj ej es => ?_
    cases e1
    cases e2
    obtain ⟨v, h1, q, rfl, _, _, h2, _⟩ := re.cell j _ ej
    rw [es] at h1
    cases h1
    obtain ⟨u, hu⟩ := h2.there
    rw [h0] at hu; cases hu
  · obtain ⟨F2, g2, r2⟩ := h.frz g
    refine ⟨F2, g2, fun {σ ρ B F0} i re => ?_⟩
    unfold cel
    rw [if_neg hk]
    exact (re.grow g2).put_sh i r2
theorem Own.upd_ne {p q : Addr} {o : HO} {d : D} (h : Own K F H q d) (n : q ≠ p) : Own K F (upd H p o) q d := by
  cases d with
  | lst ds => obtain ⟨vs, h, r⟩ := h; exact ⟨vs, by rw [L2.upd_ne n]; exact h, r⟩
  | dct kvs => obtain ⟨ks, h, r⟩ := h; exact ⟨ks, by rw [L2.upd_ne n]; exact h, r⟩
  | _ => exact h.elim
theorem Own.mo {q : Addr} {d : D} (h : Own K F H q d) (f : Same F F') : Own K F' H q d := by
  cases d with
  | lst ds => obtain ⟨vs, h, r⟩ := h; exact ⟨vs, h, r.mono f⟩
  | dct kvs => obtain ⟨ks, h, r⟩ := h; exact ⟨ks, h, r.mono f⟩
  | _ => exact h.elim
/-- one's own thing in slot i is changed -/
theorem REnv.chg (re : REnv K B F0 F H σ ρ) {i : Nat} {d0 d : D} {z0 : Option Addr} {p : Addr} {o : HO} (e : ρ[i]? = some (.ow d0 z0)) (es : σ[i]? = some (some (.ref p))) (ow : ∀ H', H' p = some o → Own K F H' p d) : REnv K B F0 F (upd H p o) σ (ρ.set i (.ow d z0)) := by
  obtain ⟨v, h1, p', rfl, hB, hF, hO, hz⟩ := re.cell i _ e
  rw [es] at h1
  cases h1
  refine ⟨fun b u z => ?_, re.f0, fun b u z => ?_, re.fr, by rw [List.length_set]; exact re.len, fun j c ej => ?_, fun j k d1 d2 z1 z2 q hjk ej ek ejs => ?_⟩
  · rw [upd_ne (ne_of_none z hB)]; exact re.bh b u z
  · rw [upd_ne (ne_of_none z hF)]; exact re.fh b u z
  · rcases set_at ej with ⟨rfl, hi, rfl⟩ | ⟨hj, ej2⟩
    · exact ⟨_, es, p, rfl, hB, hF, ow _ upd_same, hz⟩
    · obtain ⟨w, w1, w2⟩ := re.cell j c ej2
      refine ⟨w, w1, ?_⟩
      cases c with
      | no => trivial
      | sh d => exact w2
      | ow d z =>
        obtain ⟨q, rfl, q1, q2, q3, q4⟩ := w2
        refine ⟨q, rfl, q1, q2, q3.upd_ne (fun w => ?_), q4⟩
        subst w
        exact re.dis j i d d0 _ _ q hj ej2 e w1 es
  · rcases set_at ej with ⟨rfl, hi, hq⟩ | ⟨hj, ej2⟩
    · rcases set_at ek with ⟨rfl, _, _⟩ | ⟨hk, ek2⟩
      · exact absurd rfl hjk
      · exact re.dis _ k _ _ _ _ q hjk e ek2 ejs
    · rcases set_at ek with ⟨rfl, _, _⟩ | ⟨hk, ek2⟩
      · exact re.dis j _ _ _ _ _ q hjk ej2 e ejs
      · exact re.dis j k _ _ _ _ q hjk ej2 ek2 ejs
/-- one's own thing is frozen -/
theorem REnv.frz (re : REnv K B F0 F H σ ρ) {i : Nat} {d : D} {z0 : Option Addr} (e : ρ[i]? = some (.ow d z0)) : ∃ F2, REnv K B F0 F2 H σ (ρ.set i (.sh d)) := by
  obtain ⟨v, h1, p, rfl, hB, hF, hO, _⟩ := re.cell i _ e
  obtain ⟨u, hu, rp⟩ := hO.frz hF
  have fs : Same F (upd F p u) := fun b w z => by rw [upd_ne (ne_of_none z hF)]; exact z
  refine ⟨upd F p u, re.bh, re.f0.trans fs, fun b w z => ?_, fun b w z => ?_, by rw [List.length_set]; exact re.len, fun j c ej => ?_, fun j k d1 d2 z1 z2 q hjk ej ek ejs => ?_⟩
  · by_cases hb : b = p
    · subst hb; rw [upd_same] at z; rw [← z]; exact hu
    · rw [upd_ne hb] at z; exact re.fh b w z
  · by_cases hb : b = p
    · subst hb; exact .inr hB
    · rw [upd_ne hb] at z; exact re.fr b w z
  · rcases set_at ej with ⟨rfl, hi, rfl⟩ | ⟨hj, ej2⟩
    · exact ⟨_, h1, _, rfl, rp⟩
    · obtain ⟨w, w1, w2⟩ := re.cell j c ej2
      refine ⟨w, w1, ?_⟩
      cases c with
      | no => trivial
      | sh d => obtain ⟨x, rfl, r⟩ := w2; exact ⟨x, rfl, r.mono fs⟩
      | ow d' z' =>
        obtain ⟨q, rfl, q1, q2, q3, q4⟩ := w2
        have hq : q ≠ p := fun z => by
          subst z
          exact re.dis j i d' d _ _ q hj ej2 e w1 h1
        exact ⟨q, rfl, q1, by rw [upd_ne hq]; exact q2, q3.mo fs, q4⟩
  · rcases set_at ej with ⟨rfl, hi, hq⟩ | ⟨hj, ej2⟩
    · cases hq
    · rcases set_at ek with ⟨rfl, _, hq⟩ | ⟨hk, ek2⟩
      · cases hq
      · exact re.dis j k _ _ _ _ q hjk ej2 ek2 ejs
end
end DL

namespace DL
open PySem L2

def sNil : CS := fun ρ W _ => W.nx ρ
def sSeq (a b : CS) : CS := fun ρ W E => a ρ { W with nx := fun ρ' => b ρ' W E } E
def sDrop (c : CV) : CS := fun ρ W E => c ρ (fun _ => W.nx ρ) E
def sSet (i : Nat) (k : Bool) (c : CV) : CS := fun ρ W E => c ρ (fun r => W.nx (ρ.set i (cel k r))) E
def sAsg (g : CG) (c : CB) : CS := fun ρ W E => c ρ (fun d => g d ρ W.nx E) E
def sPar (i j : Nat) (ki kj : Bool) (a b : CV) : CS := fun ρ W E => a ρ (fun r => b ρ (fun q => W.nx ((ρ.set i (cel ki r)).set j (cel kj q))) E) E
def sRet (c : CB) : CS := fun ρ W E => c ρ (fun d => W.rt d ρ) E
def sRetO (i : Nat) : CS := fun ρ W _ => match ρ[i]? with
  | some (.ow d _) => W.ro d ρ
  | _ => False
def sRetF (c : CV) : CS := fun ρ W E => c ρ (fun r => r.2 = true ∧ W.ro r.1 ρ) E
def sRetN : CS := fun ρ W _ => W.rt .non ρ
def sIf (t : CT) (a b : CS) : CS := fun ρ W E => t ρ (fun k => if k = true then a ρ W E else b ρ W E) E
def sBrk : CS := fun ρ W _ => W.bk ρ
def sCnt : CS := fun ρ W _ => W.ct ρ
def sNo : CS := fun _ _ _ => False
def forM (g : CG) (body : CS) : List D → CS
  | [], ρ, W, _ => W.nx ρ
  | d :: ds, ρ, W, E => g d ρ (fun ρ' => body ρ' { nx := fun ρ2 => forM g body ds ρ2 W E, rt := W.rt, bk := W.nx, ct := fun ρ2 => forM g body ds ρ2 W E, ro := W.ro } E) E
def sFor (it : CI) (g : CG) (body : CS) : CS := fun ρ W E => it ρ (fun ds => forM g body ds ρ W E) E
def sWhile (t : CT) (body : CS) : CS := fun ρ W E => ∃ P : Nat → Env → Prop, (∃ n, P n ρ) ∧ ∀ n ρ, P n ρ →
  t ρ (fun b => if b = true then body ρ { nx := fun ρ' => ∃ m, m < n ∧ P m ρ', rt := W.rt, bk := W.nx, ct := fun ρ' => ∃ m, m < n ∧ P m ρ', ro := W.ro } E else W.nx ρ) E
def sFrz (i : Nat) (c : CS) : CS := fun ρ W E => match ρ[i]? with
  | some (.ow d _) => c (ρ.set i (.sh d)) W E
  | _ => c ρ W E
/-- an expression that may change what is one's own -/
abbrev CU := Env → (D → Env → Prop) → (Xn → Prop) → Prop
def rdU (K : PySem.W.Frag) (E : Xn → Prop) (c : CU) : TE := fun σ H Q' => ∃ B F0 F ρ Q, REnv K B F0 F H σ ρ ∧ c ρ Q E ∧ ∀ v H' F' d ρ', REnv K B F0 F' H' σ ρ' → Rep K F' v d → Q d ρ' → Q' v H'
def uOf (c : CB) : CU := fun ρ Q E => c ρ (fun d => Q d ρ) E
def uPop (j : Nat) : CU := fun ρ Q _ => match ρ[j]? with
  | some (.ow (.lst xs) z) => match xs[xs.length - 1]? with
    | some d => Q d (ρ.set j (.ow (.lst xs.dropLast) z))
    | none => False
  | _ => False
def isOwL (ρ : Env) (j : Nat) : Prop := match ρ[j]? with
  | some (.ow (.lst _) _) => True
  | _ => False
def uPopAt (j : Nat) (c : CB) : CU := fun ρ Q E => isOwL ρ j ∧ c ρ (fun y => match y, ρ[j]? with
  | .int i, some (.ow (.lst xs) z) => (-(2 ^ 63) ≤ i ∧ i < 2 ^ 63) ∧ match seqIndex? i xs.length with
    | some k => match xs[k]? with
      | some d => Q d (ρ.set j (.ow (.lst (xs.eraseIdx k)) z))
      | none => False
    | none => False
  | _, _ => False) E
def sSetU (i : Nat) (u : CU) : CS := fun ρ W E => u ρ (fun d ρ' => W.nx (ρ'.set i (.sh d))) E
def sApp (i : Nat) (u : CU) : CS := fun ρ W E => isOwL ρ i ∧ u ρ (fun d ρ' => match ρ'[i]? with
  | some (.ow (.lst xs) z) => xs.length < sizeLine ∧ W.nx (ρ'.set i (.ow (.lst (xs ++ [d])) z))
  | _ => False) E
def sPut (i : Nat) (c : CB) (ix : CB) : CS := fun ρ W E => isOwL ρ i ∧ c ρ (fun d => ix ρ (fun y => match y, ρ[i]? with
  | .int k, some (.ow (.lst xs) z) => match ixN xs.length k with
    | some j => W.nx (ρ.set i (.ow (.lst (xs.set j d)) z))
    | none => False
  | _, _ => False) E) E
theorem isOwL_iff {ρ : Env} {j : Nat} (h : isOwL ρ j) : ∃ xs z, ρ[j]? = some (.ow (.lst xs) z) := by
  unfold isOwL at h
  split at h
  · exact ⟨_, _, by assumption⟩
  · exact h.elim

section
variable {X : Cx} {E : Xn → Prop} {pos pos' : Pos} {st : Stmt} {rest : List Stmt} {e e2 iter : Expr} {a b : CS} {c c2 : CV} {xe xi : CB} {t : CT} {g : CG}
theorem REnv.owL {K : PySem.W.Frag} {B F0 F H : Hp} {σ : L2.St} {ρ : Env} {i : Nat} {xs : List D} {z : Option Addr} (re : REnv K B F0 F H σ ρ) (e : ρ[i]? = some (.ow (.lst xs) z)) : ∃ p vs, σ[i]? = some (some (.ref p)) ∧ H p = some (.lst vs) ∧ RepL K F vs xs := by
  obtain ⟨v, h1, p, rfl, _, _, ⟨vs, h2, r⟩, _⟩ := re.cell i _ e
  exact ⟨p, vs, h1, h2, r⟩
theorem rss_nil : PSs X [] (rdS X.K E sNil) := PSs.imp pss_nil fun Dn σ H ⟨B, F0, F, ρ, W, re, h, l⟩ => l.nx σ H F ρ re h
theorem rss_one (h : PS X st (rdS X.K E a)) : PSs X [st] (rdS X.K E a) := pss_one h
theorem rss_cons (h1 : PS X st (rdS X.K E a)) (h2 : PSs X rest (rdS X.K E b)) : PSs X (st :: rest) (rdS X.K E (sSeq a b)) := PSs.imp (pss_cons h1 h2) fun Dn σ H ⟨B, F0, F, ρ, W, re, h, l⟩ =>
  ⟨B, F0, F, ρ, _, re, h, ⟨fun σ' H' F' ρ' r q => ⟨B, F0, F', ρ', W, r, q, l⟩, l.rt, l.bk, l.ct, l.ro⟩⟩
theorem rs_pass : PS X (.Pass pos) (rdS X.K E sNil) := PS.imp ps_pass fun Dn σ H ⟨B, F0, F, ρ, W, re, h, l⟩ => l.nx σ H F ρ re h
theorem rs_brk : PS X (.Break pos) (rdS X.K E sBrk) := PS.imp ps_break fun Dn σ H ⟨B, F0, F, ρ, W, re, h, l⟩ => l.bk σ H F ρ re h
theorem rs_cnt : PS X (.Continue pos) (rdS X.K E sCnt) := PS.imp ps_continue fun Dn σ H ⟨B, F0, F, ρ, W, re, h, l⟩ => l.ct σ H F ρ re h
theorem rs_no : PS X st (rdS X.K E sNo) := PS.imp ps_never fun Dn σ H ⟨B, F0, F, ρ, W, re, h, l⟩ => h
theorem rs_drop (he : PE X e (rdV X.K E c)) (hs : swapsWith e none pos.line X.env = pure false) : PS X (.Expr e pos) (rdS X.K E (sDrop c)) := PS.imp (ps_expr he hs) fun Dn σ H ⟨B, F0, F, ρ, W, re, h, l⟩ =>
  ⟨B, F0, F, ρ, _, re, h, fun v H' F' r gr _ q => l.nx σ H' F' ρ (re.grow gr) q⟩
theorem set_imp {K : PySem.W.Frag} {i : Nat} {k : Bool} {Dn : Ends} {σ : L2.St} {H : Hp} (hw : rdS K E (sSet i k c) Dn σ H) : rdV K E c σ H fun x H1 => gName i x σ H1 Dn.nx := by
  obtain ⟨B, F0, F, ρ, W, re, h, l⟩ := hw
  refine ⟨B, F0, F, ρ, _, re, h, fun v H' F' r gr vr q => ?_⟩
  obtain ⟨F2, g2, kp⟩ := vr.keep k gr
  exact l.nx _ _ _ _ (kp i re) q
theorem rs_set {i : Nat} {x : Str} (k : Bool) (hN : X.N.Nodup) (hi : X.N[i]? = some x) (hx : Loc X.env.scope x) (hf : X.fn x = true ∨ X.env.scope.names.lookup x = some .local) (he : PE X e (rdV X.K E c)) (hs : swapsWith e (some (.Name x pos')) pos.line X.env = pure false) :
    PS X (.Assign [.Name x pos'] e pos) (rdS X.K E (sSet i k c)) := PS.imp (ps_set hN hi hx he hs hf) fun Dn σ H h => set_imp h
theorem rs_setU {i : Nat} {x : Str} {u : CU} (hN : X.N.Nodup) (hi : X.N[i]? = some x) (hx : Loc X.env.scope x) (hf : X.fn x = true ∨ X.env.scope.names.lookup x = some .local) (he : PE X e (rdU X.K E u)) (hs : swapsWith e (some (.Name x pos')) pos.line X.env = pure false) :
    PS X (.Assign [.Name x pos'] e pos) (rdS X.K E (sSetU i u)) := PS.imp (ps_set hN hi hx he hs hf) fun Dn σ H ⟨B, F0, F, ρ, W, re, h, l⟩ =>
  ⟨B, F0, F, ρ, _, re, h, fun v H' F' d ρ' re' r q => l.nx _ _ _ _ (re'.put_sh i r) q⟩
theorem rs_asg {sl : List Nat} {tg : Expr} (he : PE X e (rdF X.K E xe)) (hg : PG X tg (rdG X.K E sl g)) (hs : swapsWithSole [tg] e pos.line X.env = pure false) (hw : swappedStores [tg] e X.env = pure none) (h1 : (assignEach [tg] X.env).map (·.2) = [assign tg X.env]) :
    PS X (.Assign [tg] e pos) (rdS X.K E (sAsg g xe)) := PS.imp (ps_asg he hg hs hw h1) fun Dn σ H ⟨B, F0, F, ρ, W, re, h, l⟩ =>
  ⟨B, F0, F, ρ, _, re, h, fun v H' F' d gr r q => ⟨B, F0, F', ρ, _, d, re.grow gr, r, q, fun σ' ρ' _ _ re' q' => l.nx σ' H' F' ρ' re' q'⟩⟩
theorem rs_par {i j : Nat} {x y : Str} {px py pt : Pos} {kt k2 pt2} (ki kj : Bool) (hc : X.calm = true) (hN : X.N.Nodup) (hi : X.N[i]? = some x) (hj : X.N[j]? = some y) (hij : i ≠ j)
    (hx : X.env.scope.names.lookup x = some .local) (hy : X.env.scope.names.lookup y = some .local) (ha : PE X e (rdV X.K E c)) (hb : PE X e2 (rdV X.K E c2)) (hst : starEach [e, e2] X.env = (false, eval e X.env) :: starEach [e2] X.env) (hst2 : starEach [e2] X.env = (false, eval e2 X.env) :: starEach [] X.env)
    (hw : swappedStores [.Tuple [.Name x px, .Name y py] kt pt] (.Tuple [e, e2] k2 pt2) X.env = pure (some [x, y])) (hs : swapsWithSole [.Tuple [.Name x px, .Name y py] kt pt] (.Tuple [e, e2] k2 pt2) pos.line X.env = pure false) :
    PS X (.Assign [.Tuple [.Name x px, .Name y py] kt pt] (.Tuple [e, e2] k2 pt2) pos) (rdS X.K E (sPar i j ki kj c c2)) :=
  PS.imp (ps_par hc hN hi hj hij hx hy (pa_cons ha (pa_cons hb pa_nil hst2) hst) hw hs) fun Dn σ H ⟨B, F0, F, ρ, W, re, h, l⟩ => by
    refine ⟨B, F0, F, ρ, _, re, h, fun v H1 F1 r g1 v1 q1 => ?_⟩
    obtain ⟨F2, g2, kp⟩ := v1.keep ki g1
    refine ⟨B, F0, F2, ρ, _, re.grow g2, q1, fun w H3 F3 r3 g3 v3 q3 => ⟨v, w, rfl, ?_⟩⟩
    obtain ⟨F4, g4, kp2⟩ := v3.keep kj g3
    exact l.nx _ _ _ _ (kp2 j (kp i re)) q3
theorem rs_ret (he : PE X e (rdF X.K E xe)) : PS X (.Return (some e) pos) (rdS X.K E (sRet xe)) := PS.imp (ps_ret he) fun Dn σ H ⟨B, F0, F, ρ, W, re, h, l⟩ =>
  ⟨B, F0, F, ρ, _, re, h, fun v H' F' d gr r q => l.rt v _ H' F' ρ d (re.grow gr) r q⟩
/-- what is one's own is given out as it is -/
theorem rs_retO {i : Nat} {x : Str} (hN : X.N[i]? = some x) (hv : Vis X.env.scope x) (hd : (x == ("__debug__" : Str)) = false) (hcd : (x == ("__classdict__" : Str)) = false) : PS X (.Return (some (.Name x pos')) pos) (rdS X.K E (sRetO i)) :=
  PS.imp (ps_ret (pe_var hN hv hd hcd)) fun Dn σ H ⟨B, F0, F, ρ, W, re, h, l⟩ => by
    unfold sRetO at h
    split at h
    · rename_i d z e
      obtain ⟨v, h1, p, rfl, hB, hF, hO, _⟩ := re.cell i _ e
      exact ⟨_, h1, l.ro p σ H F ρ d re hB hF hO h⟩
    · exact h.elim
theorem rs_retF (he : PE X e (rdV X.K E c)) : PS X (.Return (some e) pos) (rdS X.K E (sRetF c)) := PS.imp (ps_ret he) fun Dn σ H ⟨B, F0, F, ρ, W, re, h, l⟩ =>
  ⟨B, F0, F, ρ, _, re, h, fun v H' F' r gr vr q => by
    obtain ⟨hr, q⟩ := q
    unfold Val at vr
    rw [if_pos hr] at vr
    obtain ⟨p, rfl, h0, hf, o⟩ := vr
    exact l.ro p σ H' F' ρ r.1 (re.grow gr) (re.bh.free h0) hf o q⟩
theorem rs_retN : PS X (.Return none pos) (rdS X.K E sRetN) := PS.imp ps_retN fun Dn σ H ⟨B, F0, F, ρ, W, re, h, l⟩ => l.rt .non _ H F ρ .non re .non h
theorem rs_if {ss ss2 : List Stmt} (ht : PT X e (rdT X.K E t)) (ha : PSs X ss (rdS X.K E a)) (hb : PSs X ss2 (rdS X.K E b)) : PS X (.If e ss ss2 pos) (rdS X.K E (sIf t a b)) := PS.imp (ps_if ht ha hb) fun Dn σ H ⟨B, F0, F, ρ, W, re, h, l⟩ =>
  ⟨B, F0, F, ρ, _, re, h, fun k H1 F1 g1 q => by
    cases k with
    | true => exact ⟨B, F0, F1, ρ, W, re.grow g1, q, l⟩
    | false => exact ⟨B, F0, F1, ρ, W, re.grow g1, q, l⟩⟩
theorem rs_while {ss : List Stmt} (hp : PassesOwn (model X.prog X.w) X.A X.env X.xe) (ht : PT X e (rdT X.K E t)) (hb : PSs X ss (rdS X.K E b)) : PS X (.While e ss [] pos) (rdS X.K E (sWhile t b)) :=
  PS.imp (ps_while hp ht hb) fun Dn σ H ⟨B, F0, F, ρ, W, re, h, l⟩ => by
    obtain ⟨P, ⟨n, h0⟩, hs⟩ := h
    refine ⟨fun m σ H => ∃ F ρ, REnv X.K B F0 F H σ ρ ∧ P m ρ, ⟨n, F, ρ, re, h0⟩, ?_⟩
    rintro m σ1 H1 ⟨F1, ρ1, re1, p1⟩
    refine ⟨B, F0, F1, ρ1, _, re1, hs m ρ1 p1, fun k H2 F2 g2 q => ?_⟩
    cases k with
    | false => exact l.nx _ _ _ _ (re1.grow g2) q
    | true =>
      refine ⟨fun σ' H' => ∃ m', m' < m ∧ ∃ F ρ, REnv X.K B F0 F H' σ' ρ ∧ P m' ρ, fun σ' H' z => z, B, F0, F2, ρ1, _, re1.grow g2, q, ?_⟩
      exact ⟨fun σ' H' F' ρ' r ⟨m', hm, p⟩ => ⟨m', hm, F', ρ', r, p⟩, l.rt, fun σ' H' F' ρ' r p => l.nx _ _ _ _ r p, fun σ' H' F' ρ' r ⟨m', hm, p⟩ => ⟨m', hm, F', ρ', r, p⟩, l.ro⟩
theorem rs_for {ss : List Stmt} {tg : Expr} {sl : List Nat} {ci : CI} (hp : PassesOwn (model X.prog X.w) X.A X.env X.xe) (hc : X.calm = true) (hi : PI X tg iter (rdI X.K E ci)) (hg : PG X tg (rdG X.K E sl g)) (hb : PSs X ss (rdS X.K E b)) (hs : ∀ x, foldedSetIterable iter X.env x = pure x) :
    PS X (.For tg iter ss [] pos) (rdS X.K E (sFor ci g b)) := PS.imp (ps_for hp hc hi hg hb hs) fun Dn σ H ⟨B, F0, F, ρ, W, re, h, l⟩ => by
  refine ⟨B, F0, F, ρ, _, re, h, fun J H1 F1 ds g1 io q => ?_⟩
  have re1 := re.grow g1
  have f01 := re1.f0
  have fr1 := re1.fr
  have l1 : Lk X.K B F1 W Dn := l.base f01 fr1
  refine ⟨fun i m σ H => m = ds.length - i ∧ i ≤ ds.length ∧ ∃ F2 ρ2, REnv X.K B F1 F2 H σ ρ2 ∧ forM g b (ds.drop i) ρ2 W E, ⟨ds.length, by simp, Nat.zero_le _, F1, ρ, re1.base, q⟩, ?_⟩
  rintro i m σ2 H2 ⟨rfl, hi, F2, ρ2, re2, q2⟩
  obtain ⟨i1, i2⟩ := io F2 H2 re2.f0 re2.fh
  by_cases hlt : i < ds.length
  · obtain ⟨go, yl⟩ := i2 i _ (List.getElem?_eq_getElem hlt)
    rw [List.drop_eq_getElem_cons hlt] at q2
    refine .inr ⟨go, fun σ' H' => ∃ F2 ρ2, REnv X.K B F1 F2 H' σ' ρ2 ∧ forM g b (ds.drop (i + 1)) ρ2 W E, fun σ' H' z => ⟨ds.length - (i + 1), by omega, rfl, hlt, z⟩, fun x H3 y => ?_⟩
    obtain ⟨F3, g3, r3⟩ := yl x H3 y
    refine ⟨B, F1, F3, ρ2, _, _, re2.grow g3, r3, q2, fun σ4 ρ4 _ _ re4 q4 => ⟨B, F1, F3, ρ4, _, re4, q4, ?_⟩⟩
    exact ⟨fun σ' H' F' ρ' r p => ⟨F', ρ', r, p⟩, l1.rt, fun σ' H' F' ρ' r p => l1.nx _ _ _ _ r p, fun σ' H' F' ρ' r p => ⟨F', ρ', r, p⟩, l1.ro⟩
  · have e : i = ds.length := by omega
    subst e
    rw [List.drop_length] at q2
    exact .inl ⟨i1, l1.nx _ _ _ _ re2 q2⟩
theorem rs_frz (i : Nat) (h : PS X st (rdS X.K E a)) : PS X st (rdS X.K E (sFrz i a)) := h.imp fun Dn σ H ⟨B, F0, F, ρ, W, re, h, l⟩ => by
  unfold sFrz at h
  split at h
  · rename_i d z e
    obtain ⟨F2, re2⟩ := re.frz e
    exact ⟨B, F0, F2, _, W, re2, h, l⟩
  · exact ⟨B, F0, F, ρ, W, re, h, l⟩

/-! ### changing one's own lists -/
theorem ru_of (he : PE X e (rdF X.K E xe)) : PE X e (rdU X.K E (uOf xe)) := he.imp fun σ H Q' ⟨B, F0, F, ρ, Q, re, h, k⟩ =>
  ⟨B, F0, F, ρ, _, re, h, fun v H' F' d gr r q => k v H' F' d ρ (re.grow gr) r q⟩
theorem re_own {i : Nat} {x : Str} (hN : X.N[i]? = some x) (hv : Vis X.env.scope x) (hd : (x == ("__debug__" : Str)) = false) (hcd : (x == ("__classdict__" : Str)) = false) : PE X (.Name x pos) (tVar i) := pe_var hN hv hd hcd
theorem ru_pop {j : Nat} {x : Str} {apos cpos : Pos} (hN : X.N[j]? = some x) (hv : Vis X.env.scope x) (hd : (x == ("__debug__" : Str)) = false) (hcd : (x == ("__classdict__" : Str)) = false)
    (hbase : attributeBase (.Name x pos) "pop" X.env (eval (.Name x pos) X.env) = eval (.Name x pos) X.env) (hline : (apos.endLine == cpos.line) = true) : PE X (.Call (.Attribute (.Name x pos) "pop" apos) [] [] cpos) (rdU X.K E (uPop j)) :=
  (pe_bm0 F.plainAttrs_list F.slot_list_pop rfl mt_pop (pe_var hN hv hd hcd) hbase hline).imp fun σ H Q' ⟨B, F0, F, ρ, Q, re, h, k⟩ => by
    unfold uPop at h
    split at h
    · rename_i xs z e
      split at h
      · rename_i d ed
        obtain ⟨p, vs, es, hp, r⟩ := re.owL e
        obtain ⟨v, ev, rv⟩ := r.get ed
        refine ⟨_, es, .inl ⟨rfl, _, SqL.of hp⟩, p, vs, v, rfl, rfl, hp, by rw [r.length]; exact ev, ?_⟩
        exact k v _ F d _ (re.chg e es fun H' h' => Own.mkL h' r.dropLast) rv h
      · exact h.elim
    · exact h.elim
theorem ru_popAt {j : Nat} {x : Str} {apos cpos : Pos} (hN : X.N[j]? = some x) (hv : Vis X.env.scope x) (hd : (x == ("__debug__" : Str)) = false) (hcd : (x == ("__classdict__" : Str)) = false) (he : PE X e (rdF X.K E xe))
    (hbase : attributeBase (.Name x pos) "pop" X.env (eval (.Name x pos) X.env) = eval (.Name x pos) X.env)
    (hfew : ((backTo cpos (starEach [e] X.env)).all (fun x => !x.1) && (backToKw cpos (keywordEach [] X.env)).all (fun x => x.1.isSome) && decide ([e].length + ([] : List Keyword).length + (if ([] : List Keyword).isEmpty then 0 else 1) < 30)) = true)
    (hline : (apos.endLine == cpos.line) = true) (hs : starEach [e] X.env = (false, eval e X.env) :: starEach [] X.env) (hpl : (backTo cpos (starEach [] X.env)).any (·.1) = false) :
    PE X (.Call (.Attribute (.Name x pos) "pop" apos) [e] [] cpos) (rdU X.K E (uPopAt j xe)) :=
  (pe_bm F.plainAttrs_list F.slot_list_pop rfl mt_popAt (pe_var hN hv hd hcd) (pa_cons he pa_nil hs) hbase hfew hline hs hpl).imp fun σ H Q' ⟨B, F0, F, ρ, Q, re, h, k⟩ => by
    obtain ⟨h0, h⟩ := h
    obtain ⟨xs, z0, ex⟩ := isOwL_iff h0
    obtain ⟨p, vs, es, hp, r⟩ := re.owL ex
    refine ⟨_, es, .inl ⟨rfl, _, SqL.of hp⟩, B, F0, F, ρ, _, re, h, fun w H' F' d gr rd q => ?_⟩
    have re' := re.grow gr
    split at q
    · rename_i i xs' z e2
      rw [ex] at e2
      cases e2
      cases rd
      obtain ⟨hb, q⟩ := q
      split at q
      · rename_i n en
        split at q
        · rename_i d ed
          have r' := r.mono gr.f
          obtain ⟨v, ev, rv⟩ := r'.get ed
          have hp' := gr.h _ _ hp
          refine ⟨p, vs, i, n, v, rfl, rfl, hp', hb.1, hb.2, by rw [r.length]; exact en, ev, ?_⟩
          exact k v _ F' d _ (re'.chg ex es fun H2 h2 => Own.mkL h2 (r'.eraseIdx n)) rv q
        · exact q.elim
      · exact q.elim
    · exact q.elim
theorem rs_app {i : Nat} {x : Str} {u : CU} {apos cpos : Pos} (hN : X.N[i]? = some x) (hv : Vis X.env.scope x) (hd : (x == ("__debug__" : Str)) = false) (hcd : (x == ("__classdict__" : Str)) = false) (he : PE X e (rdU X.K E u))
    (hbase : attributeBase (.Name x pos) "append" X.env (eval (.Name x pos) X.env) = eval (.Name x pos) X.env)
    (hfew : ((backTo cpos (starEach [e] X.env)).all (fun x => !x.1) && (backToKw cpos (keywordEach [] X.env)).all (fun x => x.1.isSome) && decide ([e].length + ([] : List Keyword).length + (if ([] : List Keyword).isEmpty then 0 else 1) < 30)) = true)
    (hline : (apos.endLine == cpos.line) = true) (hs : starEach [e] X.env = (false, eval e X.env) :: starEach [] X.env) (hpl : (backTo cpos (starEach [] X.env)).any (·.1) = false)
    (hsw : swapsWith (.Call (.Attribute (.Name x pos) "append" apos) [e] [] cpos) none pos'.line X.env = pure false) :
    PS X (.Expr (.Call (.Attribute (.Name x pos) "append" apos) [e] [] cpos) pos') (rdS X.K E (sApp i u)) :=
  PS.imp (ps_expr (pe_bm F.plainAttrs_list F.slot_list_append rfl mt_append (pe_var hN hv hd hcd) (pa_cons he pa_nil hs) hbase hfew hline hs hpl) hsw) fun Dn σ H ⟨B, F0, F, ρ, W, re, h, l⟩ => by
    obtain ⟨h0, h⟩ := h
    obtain ⟨xs, z0, ex⟩ := isOwL_iff h0
    obtain ⟨p, vs, es, hp, r⟩ := re.owL ex
    refine ⟨_, es, .inl ⟨rfl, _, SqL.of hp⟩, B, F0, F, ρ, _, re, h, fun w H' F' d ρ' re' rd q => ?_⟩
    split at q
    · rename_i xs' z e2
      obtain ⟨p2, vs2, es2, hp2, r2⟩ := re'.owL e2
      rw [es] at es2
      cases es2
      refine ⟨p, vs2, w, rfl, rfl, hp2, by rw [r2.length]; exact q.1, ?_⟩
      exact l.nx _ _ _ _ (re'.chg e2 es fun H2 h2 => Own.mkL h2 (r2.append (.cons rd .nil))) q.2
    · exact q.elim
theorem rs_put {i : Nat} {x : Str} (hN : X.N[i]? = some x) (hv : Vis X.env.scope x) (hd : (x == ("__debug__" : Str)) = false) (hcd : (x == ("__classdict__" : Str)) = false) (he : PE X e (rdF X.K E xe)) (hi : PE X e2 (rdF X.K E xi)) {p1 p2 : Pos}
    (ha : ∀ v, assign (.Subscript (.Name x p1) e2 p2) X.env v = (do
      let ov ← holding [v] (eval (.Name x p1) X.env)
      let iv ← holding [v, ov] (eval e2 X.env)
      standAt p2
      holding [v, ov, iv] (setItem ov iv v)
      release [v, ov, iv] []))
    (hs : swapsWithSole [.Subscript (.Name x p1) e2 p2] e pos.line X.env = pure false) (hw : swappedStores [.Subscript (.Name x p1) e2 p2] e X.env = pure none) (h1 : (assignEach [.Subscript (.Name x p1) e2 p2] X.env).map (·.2) = [assign (.Subscript (.Name x p1) e2 p2) X.env]) :
    PS X (.Assign [.Subscript (.Name x p1) e2 p2] e pos) (rdS X.K E (sPut i xe xi)) :=
  PS.imp (ps_asg he (pg_sub (pe_var hN hv hd hcd) hi set_list ha) hs hw h1) fun Dn σ H ⟨B, F0, F, ρ, W, re, h, l⟩ => by
    obtain ⟨h0, h⟩ := h
    obtain ⟨xs0, z0, ex⟩ := isOwL_iff h0
    obtain ⟨p, vs0, ez, hp0, r0⟩ := re.owL ex
    refine ⟨B, F0, F, ρ, _, re, h, fun w H1 F1 d g1 rd q => ⟨_, ez, B, F0, F1, ρ, _, re.grow g1, q, fun y H2 F2 d2 g2 r2 q2 => ?_⟩⟩
    have re2 := (re.grow g1).grow g2
    split at q2
    · rename_i k xs z e2
      cases r2
      obtain ⟨p', vs, es, hp, r⟩ := re2.owL e2
      rw [ez] at es
      cases es
      split at q2
      · rename_i j ej
        refine ⟨p, vs, k, j, rfl, rfl, hp, by rw [r.length]; exact ej, ?_⟩
        exact l.nx _ _ _ _ (re2.chg e2 ez fun H3 h3 => Own.mkL h3 (r.set (rd.mono g2.f) j)) q2
      · exact q2.elim
    · exact q2.elim
end
end DL

namespace DL
open PySem L2

/-! ### the reader of a text: what it computes -/
inductive GV where
  | fn (n : Nat) (m : List D → M D) (kw : List (Nat × List Str × List Nat))
  | fo (n : Nat) (m : List D → M D) (kw : List (Nat × List Str × List Nat))
  | cv (d : D)
  | bi (id : String) (m : List D → M (D × Bool))
  | ty (T : String) (m : List D → M (D × Bool))
  | sp
structure Sg where
  N : List Str
  sc : Scope
  st : List Str
  gl : List (Str × GV)
  own : List Nat
  ro : Bool := false
def GvOk (X : Cx) (x : Str) : GV → Prop
  | .fn n m kw => ∃ (k : Nat) (f : Addr) (fd : FuncData) (ps : List Str), FnG X.prog X.w X.K X.mg X.base CX0 k f fd ps (SpM X.K ps.length m) ∧ Room k X.A ∧ X.mg x = some (.ref f) ∧ PySem.W.keepIn X.K (.ref f) = true ∧ Binds X.K fd ps [] ∧ ps.length = n ∧
      ∀ z ∈ kw, KwOk X.K fd ps z.1 z.2.1 z.2.2
  | .fo n m kw => ∃ (k : Nat) (f : Addr) (fd : FuncData) (ps : List Str), FnG X.prog X.w X.K X.mg X.base CX0 k f fd ps (SpF true X.K ps.length m) ∧ Room k X.A ∧ X.mg x = some (.ref f) ∧ PySem.W.keepIn X.K (.ref f) = true ∧ Binds X.K fd ps [] ∧ ps.length = n ∧
      ∀ z ∈ kw, KwOk X.K fd ps z.1 z.2.1 z.2.2
  | .cv d => ∃ (v : V) (u : Value), X.mg x = some u ∧ RelV v u ∧ ∀ F, Rep X.K F v d
  | .bi id m => X.mg x = none ∧ bootBuiltins x = some (.builtin id) ∧ x ≠ "__name__" ∧ ∀ Y : Cx, Y.calm = true → Y.A.guards = some [] → Y.A.units + 110 < cLine → CallR Y (.builtin id) (rcM Y.K m)
  | .ty T m => X.mg x = none ∧ bootBuiltins x = some (.type T) ∧ x ≠ "__name__" ∧ ∀ Y : Cx, Y.calm = true → Y.A.guards = some [] → Y.A.units + 110 < cLine → CallR Y (.type T) (rcM Y.K m)
  | .sp => X.mg x = none
structure SgOk (X : Cx) (g : Sg) : Prop where
  N : X.N = g.N
  nd : g.N.Nodup
  sc : X.env.scope = g.sc
  kind : g.sc.kind = .function
  calm : X.calm = true
  gd : X.A.guards = some []
  un : X.A.units + 110 < cLine
  st : ∀ x ∈ g.st, Loc g.sc x ∧ (X.fn x = true ∨ g.sc.names.lookup x = some .local)
  gl : ∀ x v, g.gl.lookup x = some v → GvOk X x v
structure Rec where
  v : Sg → Expr → Option CV
  t : Sg → Expr → Option CT
  i : Sg → Expr → Expr → Option CI
  s : Sg → Stmt → Option CS
structure RecOk (r : Rec) : Prop where
  v : ∀ {X : Cx} {g : Sg} {E : Xn → Prop} {e : Expr} {c : CV}, SgOk X g → r.v g e = some c → PE X e (rdV X.K E c)
  t : ∀ {X : Cx} {g : Sg} {E : Xn → Prop} {e : Expr} {c : CT}, SgOk X g → r.t g e = some c → PT X e (rdT X.K E c)
  i : ∀ {X : Cx} {g : Sg} {E : Xn → Prop} {tg e : Expr} {c : CI}, SgOk X g → r.i g tg e = some c → PI X tg e (rdI X.K E c)
  s : ∀ {X : Cx} {g : Sg} {E : Xn → Prop} {st : Stmt} {c : CS}, SgOk X g → PassesOwn (model X.prog X.w) X.A X.env X.xe → r.s g st = some c → PS X st (rdS X.K E c)

/-! ### plain forms -/
def plainE : Expr → Bool
  | .Starred .. => false
  | .Slice .. => false
  | .Set .. => false
  | _ => true
theorem plain_star {e : Expr} {es : List Expr} {env : PySem.Env} (h : plainE e = true) : starEach (e :: es) env = (false, eval e env) :: starEach es env := by
  cases e <;> first | rfl | cases h
theorem plain_ix {e : Expr} (h : plainE e = true) : PlainIx e := by
  intro o i
  cases e <;> first | rfl | cases h
theorem plain_set {e : Expr} (h : plainE e = true) {env : PySem.Env} (x : Value) : foldedSetIterable e env x = pure x := by
  cases e <;> first | rfl | cases h
theorem plain_asg {e : Expr} {es : List Expr} {env : PySem.Env} (h : plainE e = true) : assignEach (e :: es) env = (false, assign e env) :: assignEach es env := by
  cases e <;> first | rfl | cases h
theorem plains_pl {env : PySem.Env} {pos : Pos} : ∀ {es : List Expr}, es.all plainE = true → (backTo pos (starEach es env)).any (·.1) = false
  | [], _ => rfl
  | e :: es, h => by
    rw [List.all_cons, Bool.and_eq_true] at h
    rw [plain_star h.1]
    unfold backTo
    rw [List.map_cons, List.any_cons]
    have := plains_pl (env := env) (pos := pos) h.2
    unfold backTo at this
    rw [this]
    rfl
/-- no test of its own -/
def noTest : Expr → Bool
  | .UnaryOp .Not _ _ => false
  | .BoolOp .. => false
  | .IfExp .. => false
  | .Compare .. => false
  | _ => true
theorem noTest_is {e : Expr} {env : PySem.Env} (h : noTest e = true) (whole : Sem Value) : isTrue e env whole = (do let v ← whole; standAt e.pos; holding [v] (truthy v)) := by
  cases e with
  | UnaryOp op a p => cases op <;> first | rfl | cases h
  | _ => first | rfl | cases h
def noComp : Expr → Bool
  | .ListComp .. => false
  | .SetComp .. => false
  | .DictComp .. => false
  | _ => true
theorem noComp_sw {e : Expr} {env : PySem.Env} (h : noComp e = true) (t : Option Expr) (l : Nat) : swapsWith e t l env = pure false := by
  unfold swapsWith
  cases e <;> first | rfl | cases h

/-! ### slots -/
def visB (sc : Scope) (x : Str) : Bool := match sc.names.lookup x with
  | some .local => true
  | some .cell => true
  | some .free => true
  | _ => false
theorem visB_is {sc : Scope} {x : Str} (h : visB sc x = true) : Vis sc x := by
  unfold visB at h
  unfold Vis
  cases q : sc.names.lookup x with
  | none => rw [q] at h; cases h
  | some k => rw [q] at h; cases k <;> first | exact .inl rfl | exact .inr (.inl rfl) | exact .inr (.inr rfl) | cases h
def oddName (x : Str) : Bool := x == ("__debug__" : Str) || x == ("__classdict__" : Str)
def slotOf (g : Sg) (x : Str) : Option Nat := if (visB g.sc x && !oddName x) = true then g.N.idxOf? x else none
theorem slotOf_is {g : Sg} {x : Str} {i : Nat} (h : slotOf g x = some i) : g.N[i]? = some x ∧ Vis g.sc x ∧ (x == ("__debug__" : Str)) = false ∧ (x == ("__classdict__" : Str)) = false := by
  unfold slotOf at h
  split at h
  · rename_i hv
    rw [Bool.and_eq_true] at hv
    obtain ⟨h1, h2⟩ := hv
    have h2 : oddName x = false := by simpa using h2
    unfold oddName at h2
    rw [Bool.or_eq_false_iff] at h2
    refine ⟨?_, visB_is h1, h2.1, h2.2⟩
    rw [List.idxOf?, List.findIdx?_eq_some_iff_getElem] at h
    obtain ⟨hi, hx, _⟩ := h
    rw [List.getElem?_eq_getElem hi]
    exact congrArg some (by simpa using hx)
  · cases h
def globB (g : Sg) (x : Str) : Bool := (match g.sc.names.lookup x with | some .globalImplicit => true | _ => false) && !oddName x
theorem globB_is {X : Cx} {g : Sg} (ok : SgOk X g) {x : Str} (h : globB g x = true) : Gl X x ∧ (x == ("__debug__" : Str)) = false := by
  unfold globB at h
  rw [Bool.and_eq_true] at h
  obtain ⟨h1, h2⟩ := h
  have h2 : oddName x = false := by simpa using h2
  unfold oddName at h2
  rw [Bool.or_eq_false_iff] at h2
  refine ⟨?_, h2.1⟩
  show X.env.scope.names.lookup x = some .globalImplicit
  rw [ok.sc]
  split at h1
  · assumption
  · cases h1
def bOf (r : Rec) (g : Sg) : Expr → Option CB
  | .Name x p => match slotOf g x with
    | some i => some (bVar i)
    | none => (r.v g (.Name x p)).map frz
  | e => (r.v g e).map frz
def fOf (r : Rec) (g : Sg) (e : Expr) : Option CB := (r.v g e).map frz
section
variable {r : Rec} {X : Cx} {g : Sg} {E : Xn → Prop} {e : Expr}
theorem map_some {α β : Type} {o : Option α} {f : α → β} {b : β} (h : o.map f = some b) : ∃ a, o = some a ∧ f a = b := by
  cases o with
  | none => cases h
  | some a => exact ⟨a, rfl, Option.some.inj h⟩
theorem bind_some {α β : Type} {o : Option α} {f : α → Option β} {b : β} (h : (o >>= f) = some b) : ∃ a, o = some a ∧ f a = some b := by
  cases o with
  | none => cases h
  | some a => exact ⟨a, rfl, h⟩
theorem fOf_ok (R : RecOk r) (ok : SgOk X g) {c : CB} (h : fOf r g e = some c) : PE X e (rdF X.K E c) := by
  obtain ⟨a, h1, rfl⟩ := map_some h
  exact PE.toF (R.v ok h1)
theorem bOf_ok (R : RecOk r) (ok : SgOk X g) {c : CB} (h : bOf r g e = some c) : PE X e (rdB X.K E c) := by
  have gen : ∀ {e}, (r.v g e).map frz = some c → PE X e (rdB X.K E c) := fun h => by
    obtain ⟨a, h1, rfl⟩ := map_some h
    exact PE.toB (R.v ok h1)
  unfold bOf at h
  split at h
  · split at h
    · rename_i i hi
      cases h
      obtain ⟨h1, h2, h3, h4⟩ := slotOf_is hi
      exact re_bvar (by rw [ok.N]; exact h1) (by rw [ok.sc]; exact h2) h3 h4
    · exact gen h
  · exact gen h
end
/-! ### lists -/
def lOf (r : Rec) (g : Sg) : List Expr → Option CL
  | [] => some cNil
  | e :: es => if plainE e = true then match fOf r g e, lOf r g es with
    | some a, some l => some (cCons a l)
    | _, _ => none else none
def mOf (r : Rec) (g : Sg) : List Expr → Option CL
  | [] => some cNil
  | e :: es => if plainE e = true then match bOf r g e, mOf r g es with
    | some a, some l => some (cCons a l)
    | _, _ => none else none
def kOf (r : Rec) (g : Sg) : List Keyword → Option CL
  | [] => some cNil
  | ⟨_, e, _⟩ :: es => match fOf r g e, kOf r g es with
    | some a, some l => some (cCons a l)
    | _, _ => none
section
variable {r : Rec} {X : Cx} {g : Sg} {E : Xn → Prop}
theorem lOf_ok (R : RecOk r) (ok : SgOk X g) : ∀ {es : List Expr} {c : CL}, lOf r g es = some c → PA X es (rdL X.K E es.length c) ∧ es.all plainE = true
  | [], c, h => by simp only [lOf, Option.some.injEq] at h; subst h; exact ⟨rl_nil, rfl⟩
  | e :: es, c, h => by
    simp only [lOf] at h
    split at h
    · rename_i hp
      split at h
      · rename_i a l ha hl
        cases h
        obtain ⟨h1, h2⟩ := lOf_ok R ok hl
        exact ⟨rl_cons (fOf_ok R ok ha) h1 (plain_star hp), by rw [List.all_cons, hp, h2]; rfl⟩
      · cases h
    · cases h
theorem mOf_ok (R : RecOk r) (ok : SgOk X g) : ∀ {es : List Expr} {c : CL}, mOf r g es = some c → PA X es (rdM X.K E c) ∧ es.all plainE = true
  | [], c, h => by simp only [mOf, Option.some.injEq] at h; subst h; exact ⟨rm_nil, rfl⟩
  | e :: es, c, h => by
    simp only [mOf] at h
    split at h
    · rename_i hp
      split at h
      · rename_i a l ha hl
        cases h
        obtain ⟨h1, h2⟩ := mOf_ok R ok hl
        exact ⟨rm_cons (bOf_ok R ok ha) h1 (plain_star hp), by rw [List.all_cons, hp, h2]; rfl⟩
      · cases h
    · cases h
theorem kOf_ok (R : RecOk r) (ok : SgOk X g) : ∀ {es : List Keyword} {c : CL}, kOf r g es = some c → PK X es (rdL X.K E es.length c)
  | [], c, h => by simp only [kOf, Option.some.injEq] at h; subst h; exact rk_nil
  | ⟨n, e, p⟩ :: es, c, h => by
    simp only [kOf] at h
    split at h
    · rename_i a l ha hl
      cases h
      exact rk_cons (fOf_ok R ok ha) (kOf_ok R ok hl)
    · cases h
end
/-! ### targets -/
def gOf (g : Sg) : Nat → Expr → Option (List Nat × CG)
  | 0, _ => none
  | n + 1, e => match e with
   | .Name x _ => if x ∈ g.st then match slotOf g x with
    | some i => some ([i], gNm i)
    | none => none else none
   | .Tuple es _ _ => if es.all plainE = true then match (es.foldr (fun e acc => match gOf g n e, acc with
      | some (s, c), some (s2, c2) => some (s ++ s2, gsCons c c2)
      | _, _ => none) (some ([], gsNil)) : Option (List Nat × (List D → Env → M Env))) with
    | some (s, c) => some (s, gTp es.length c)
    | none => none else none
   | _ => none
section
variable {X : Cx} {g : Sg} {E : Xn → Prop}
theorem plains_find {env : PySem.Env} : ∀ {es : List Expr}, es.all plainE = true → (assignEach es env).findIdx? (·.1) = none ∧ (assignEach es env).length = es.length
  | [], _ => ⟨rfl, rfl⟩
  | e :: es, h => by
    rw [List.all_cons, Bool.and_eq_true] at h
    rw [plain_asg h.1, List.findIdx?_cons]
    obtain ⟨h1, h2⟩ := plains_find (env := env) h.2
    rw [h1]
    exact ⟨rfl, by rw [List.length_cons, List.length_cons, h2]⟩
theorem gOf_ok (ok : SgOk X g) : ∀ {n : Nat} {e : Expr} {p : List Nat × CG}, gOf g n e = some p → PG X e (rdG X.K E p.1 p.2)
  | 0, _, _, h => by simp [gOf] at h
  | n + 1, e, p, h => by
    unfold gOf at h
    split at h
    · split at h
      · rename_i hs
        split at h
        · rename_i i hi
          cases h
          obtain ⟨h1, h2, h3, h4⟩ := slotOf_is hi
          obtain ⟨s1, s2⟩ := ok.st _ hs
          exact rg_name (by rw [ok.N]; exact ok.nd) (by rw [ok.N]; exact h1) (by rw [ok.sc]; exact s1) (by rw [ok.sc]; exact s2)
        · cases h
      · cases h
    · rename_i es k tp
      split at h
      · rename_i hp
        split at h
        · rename_i s c hf
          cases h
          have main : ∀ (es : List Expr) (s : List Nat) (c : List D → Env → M Env), es.all plainE = true → (es.foldr (fun e acc => match gOf g n e, acc with
              | some (s, c), some (s2, c2) => some (s ++ s2, gsCons c c2)
              | _, _ => none) (some ([], gsNil)) : Option (List Nat × (List D → Env → M Env))) = some (s, c) → PGs X es (rdGs X.K E s c) := by
            intro es
            induction es with
            | nil => intro s c _ h; cases h; exact rgs_nil
            | cons e es ih =>
              intro s c hp h
              rw [List.foldr_cons] at h
              rw [List.all_cons, Bool.and_eq_true] at hp
              split at h
              · rename_i s1 c1 s2 c2 h1 h2
                cases h
                exact rgs_cons (gOf_ok (p := (s1, c1)) ok h1) (ih _ _ hp.2 h2) (by rw [plain_asg hp.1]; rfl)
              · cases h
          obtain ⟨q1, q2⟩ := plains_find (env := X.env) hp
          exact rg_tup ok.calm (main es s c hp hf) q2 q1
        · cases h
      · cases h
    · cases h
end
end DL

namespace DL
open PySem L2

/-! ### rules for expressions -/
abbrev VR := Rec → Sg → Expr → Option CV
def VrOk (f : VR) : Prop := ∀ {r : Rec}, RecOk r → ∀ {X : Cx} {g : Sg} {E : Xn → Prop} {e : Expr} {c : CV}, SgOk X g → f r g e = some c → PE X e (rdV X.K E c)

def vName : VR := fun _ g e => match e with
  | .Name x _ => match slotOf g x with
    | some i => if i ∈ g.own then none else some (cVar i)
    | none => if globB g x = true then match g.gl.lookup x with
      | some (.cv d) => some (cC d)
      | _ => none else none
  | _ => none
theorem vName_ok : VrOk vName := by
  intro r R X g E e c ok h
  unfold vName at h
  split at h
  · split at h
    · rename_i i hi
      split at h
      · cases h
      cases h
      obtain ⟨h1, h2, h3, h4⟩ := slotOf_is hi
      exact re_var (by rw [ok.N]; exact h1) (by rw [ok.sc]; exact h2) h3 h4
    · split at h
      · rename_i hg
        split at h
        · rename_i d hd
          cases h
          obtain ⟨v, u, h1, h2, h3⟩ := ok.gl _ _ hd
          obtain ⟨q1, q2⟩ := globB_is ok hg
          exact (pe_glob q1 h1 h2 q2).imp fun σ H Q' ⟨B, F0, F, ρ, Q, re, h, k⟩ => k v H F (d, false) re.gr (Val.of (h3 F)) h
        · cases h
      · cases h
  · cases h
def vConst : VR := fun _ _ e => match e with
  | .Constant (.int i) _ _ => some (cC (.int i))
  | .Constant (.bool b) _ _ => some (cC (.bl b))
  | .Constant .none _ _ => some (cC .non)
  | .Constant (.str x) _ _ => some (cC (.str x))
  | _ => none
theorem vConst_ok : VrOk vConst := by
  intro r R X g E e c ok h
  unfold vConst at h
  split at h
  · cases h; exact re_const pe_int fun F => .int _
  · cases h; exact re_const pe_bl fun F => .bl _
  · cases h; exact re_const pe_non fun F => .non
  · cases h; exact re_const pe_str fun F => .str _
  · cases h
def vBin : VR := fun r g e => match e with
  | .BinOp a op b _ => match bOf r g a, bOf r g b with
    | some x, some y => some (cBin op x y)
    | _, _ => none
  | .UnaryOp .USub a _ => (bOf r g a).map cNeg
  | .UnaryOp .Not a _ => (bOf r g a).map cNot
  | _ => none
theorem vBin_ok : VrOk vBin := by
  intro r R X g E e c ok h
  unfold vBin at h
  split at h
  · split at h
    · cases h; exact re_bin (bOf_ok R ok ‹_›) (bOf_ok R ok ‹_›)
    · cases h
  · obtain ⟨a, h1, rfl⟩ := map_some h
    exact re_neg (bOf_ok R ok h1)
  · obtain ⟨a, h1, rfl⟩ := map_some h
    exact re_not (bOf_ok R ok h1)
  · cases h
/-- and, or: from the left -/
def boolV (r : Rec) (g : Sg) (f : CV → CV → CV) : List Expr → Option CV
  | [] => none
  | [a] => r.v g a
  | a :: b :: es => match r.v g a, boolV r g f (b :: es) with
    | some x, some y => some (f x y)
    | _, _ => none
def vBool : VR := fun r g e => match e with
  | .BoolOp .And es _ => boolV r g cAnd es
  | .BoolOp .Or es _ => boolV r g cOr es
  | .IfExp t a b _ => match r.t g t, r.v g a, r.v g b with
    | some t, some x, some y => some (cIf t x y)
    | _, _, _ => none
  | _ => none
theorem boolV_and {r : Rec} (R : RecOk r) {X : Cx} {g : Sg} {E : Xn → Prop} {pos : Pos} (ok : SgOk X g) : ∀ {es : List Expr} {c : CV}, boolV r g cAnd es = some c → PE X (.BoolOp .And es pos) (rdV X.K E c)
  | [], _, h => by cases h
  | [a], _, h => pe_one (R.v ok h)
  | a :: b :: es, _, h => by
    unfold boolV at h
    split at h
    · cases h; exact re_and (R.v ok ‹_›) (boolV_and R ok ‹_›)
    · cases h
theorem boolV_or {r : Rec} (R : RecOk r) {X : Cx} {g : Sg} {E : Xn → Prop} {pos : Pos} (ok : SgOk X g) : ∀ {es : List Expr} {c : CV}, boolV r g cOr es = some c → PE X (.BoolOp .Or es pos) (rdV X.K E c)
  | [], _, h => by cases h
  | [a], _, h => pe_one (R.v ok h)
  | a :: b :: es, _, h => by
    unfold boolV at h
    split at h
    · cases h; exact re_or (R.v ok ‹_›) (boolV_or R ok ‹_›)
    · cases h
theorem vBool_ok : VrOk vBool := by
  intro r R X g E e c ok h
  unfold vBool at h
  split at h
  · exact boolV_and R ok h
  · exact boolV_or R ok h
  · split at h
    · cases h; exact re_if (R.t ok ‹_›) (R.v ok ‹_›) (R.v ok ‹_›)
    · cases h
  · cases h
/-- a comparison -/
def cmpOf (r : Rec) (g : Sg) (e : Expr) : Option CT := match e with
  | .Compare a [op] [b] _ => if behindInMarks op b = false then match bOf r g a, bOf r g b with
    | some x, some y => some (tCm op x y)
    | _, _ => none else none
  | .Compare a [op, op'] [b, c] _ => if lastMarks [op, op'] [b, c] = false then match bOf r g a, bOf r g b, bOf r g c with
    | some x, some y, some z => some (tCh op op' x y z)
    | _, _, _ => none else none
  | _ => none
def vCmp : VR := fun r g e => (cmpOf r g e).map vT
section
variable {r : Rec} (R : RecOk r) {X : Cx} {g : Sg} {E : Xn → Prop} {e : Expr} {c : CT} (ok : SgOk X g)
include R ok
theorem cmpOf_ok (h : cmpOf r g e = some c) : PE X e (rdV X.K E (vT c)) ∧ PT X e (rdT X.K E c) := by
  have hu : X.A.units + 65 < cLine := Nat.lt_of_le_of_lt (Nat.add_le_add_left (by decide) _) ok.un
  unfold cmpOf at h
  split at h
  · split at h
    · rename_i hm
      split at h
      · rename_i ha hb
        cases h
        exact ⟨re_cm hu (bOf_ok R ok ha) (bOf_ok R ok hb) hm, rt_cm hu (bOf_ok R ok ha) (bOf_ok R ok hb) hm⟩
      · cases h
    · cases h
  · split at h
    · rename_i hm
      split at h
      · rename_i ha hb hc
        cases h
        exact ⟨re_ch hu (bOf_ok R ok ha) (bOf_ok R ok hb) (bOf_ok R ok hc) hm, rt_ch hu (bOf_ok R ok ha) (bOf_ok R ok hb) (bOf_ok R ok hc) hm⟩
      · cases h
    · cases h
  · cases h
end
theorem vCmp_ok : VrOk vCmp := by
  intro r R X g E e c ok h
  obtain ⟨t, h1, rfl⟩ := map_some h
  exact (cmpOf_ok R ok h1).1
def oOf (r : Rec) (g : Sg) : Option Expr → Option CO
  | none => some oNo
  | some e => (bOf r g e).map oIs
theorem oOf_ok {r : Rec} (R : RecOk r) {X : Cx} {g : Sg} {E : Xn → Prop} (ok : SgOk X g) {e : Option Expr} {c : CO} (h : oOf r g e = some c) : PO X e (rdO X.K E c) := by
  unfold oOf at h
  split at h
  · cases h; exact ro_no
  · obtain ⟨x, h1, rfl⟩ := map_some h
    exact ro_is (bOf_ok R ok h1)
def vSeq : VR := fun r g e => match e with
  | .Tuple es _ _ => (lOf r g es).map cTup
  | .List es _ => (lOf r g es).map cLst
  | .Subscript a (.Slice lo hi none _) _ => match bOf r g a, oOf r g lo, oOf r g hi with
    | some x, some l, some u => some (cSl x l u)
    | _, _, _ => none
  | .Subscript a b _ => if plainE b = true then match bOf r g a, bOf r g b with
    | some x, some y => some (cIx x y)
    | _, _ => none else none
  | _ => none
theorem vSeq_ok : VrOk vSeq := by
  intro r R X g E e c ok h
  unfold vSeq at h
  split at h
  · obtain ⟨x, h1, rfl⟩ := map_some h
    exact re_tup (lOf_ok R ok h1).1
  · obtain ⟨x, h1, rfl⟩ := map_some h
    exact re_lst (lOf_ok R ok h1).1
  · split at h
    · cases h; exact re_sl (bOf_ok R ok ‹_›) (oOf_ok R ok ‹_›) (oOf_ok R ok ‹_›)
    · cases h
  · split at h
    · rename_i hp
      split at h
      · cases h; exact re_ix (bOf_ok R ok ‹_›) (bOf_ok R ok ‹_›) (plain_ix hp)
      · cases h
    · cases h
  · cases h
def vCall : VR := fun r g e => match e with
  | .Call (.Name x _) es kws _ => if globB g x = true then match g.gl.lookup x with
    | some (.fn n m kw) => match kws with
      | [] => (lOf r g es).map (cCall n m)
      | kws => match kw.find? (fun z => decide (z.1 = es.length ∧ kws.map (·.arg) = z.2.1.map some)), lOf r g es, kOf r g kws with
        | some z, some l, some k => some (cCallK n z.2.2 m l k)
        | _, _, _ => none
    | some (.fo n m kw) => match kws with
      | [] => (lOf r g es).map (cCallF true n m)
      | kws => match kw.find? (fun z => decide (z.1 = es.length ∧ kws.map (·.arg) = z.2.1.map some)), lOf r g es, kOf r g kws with
        | some z, some l, some k => some (cCallKF true n z.2.2 m l k)
        | _, _, _ => none
    | some (.bi _ m) => match es, kws with
      | e :: es, [] => (mOf r g (e :: es)).map (cB m)
      | _, _ => none
    | some (.ty _ m) => match es, kws with
      | e :: es, [] => (mOf r g (e :: es)).map (cB m)
      | _, _ => none
    | _ => none else none
  | _ => none
theorem vCall_ok : VrOk vCall := by
  intro r R X g E e c ok h
  unfold vCall at h
  split at h
  · rename_i x p es kws pos
    split at h
    · rename_i hg
      obtain ⟨q1, q2⟩ := globB_is ok hg
      split at h
      · rename_i n m kw hl
        obtain ⟨k, f, fd, ps, F, hr, hm, hk, hb, hn, hkw⟩ := ok.gl _ _ hl
        subst hn
        split at h
        · obtain ⟨l, h1, rfl⟩ := map_some h
          obtain ⟨h2, h3⟩ := lOf_ok (E := E) R ok h1
          cases es with
          | nil =>
            simp only [lOf, Option.some.injEq] at h1
            subst h1
            exact re_call0 F hr ok.gd q1 hm hk hb q2
          | cons e es =>
            rw [List.all_cons, Bool.and_eq_true] at h3
            exact re_call F hr ok.gd q1 hm hk hb h2 q2 (plain_star h3.1) (plains_pl h3.2)
        · split at h
          · rename_i z l kl hz h1 hk1
            cases h
            have hz1 := List.mem_of_find?_eq_some hz
            have hz2 := List.find?_some hz
            have hz2 := of_decide_eq_true hz2
            obtain ⟨h2, h3⟩ := lOf_ok (E := E) R ok h1
            have kk := kOf_ok (E := E) R ok hk1
            have hlen : kws.length = z.2.1.length := by
              have := congrArg List.length hz2.2
              simpa using this
            rw [hlen] at kk
            have hKw := hkw z hz1
            cases es with
            | nil =>
              simp only [lOf, Option.some.injEq] at h1
              subst h1
              have h0 : z.1 = 0 := hz2.1
              rw [h0] at hKw
              exact re_callK0 F hr ok.gd q1 hm hk hKw kk hz2.2 q2
            | cons e es =>
              have hpl := plains_pl (env := X.env) (pos := pos) h3
              rw [List.all_cons, Bool.and_eq_true] at h3
              rw [← hz2.1] at h2
              exact re_callK F hr ok.gd q1 hm hk hKw h2 kk (plain_star h3.1) hpl hz2.2 q2
          · cases h
      · rename_i n m kw hl
        obtain ⟨k, f, fd, ps, F, hr, hm, hk, hb, hn, hkw⟩ := ok.gl _ _ hl
        subst hn
        split at h
        · obtain ⟨l, h1, rfl⟩ := map_some h
          obtain ⟨h2, h3⟩ := lOf_ok (E := E) R ok h1
          cases es with
          | nil =>
            simp only [lOf, Option.some.injEq] at h1
            subst h1
            exact re_call0 F hr ok.gd q1 hm hk hb q2
          | cons e es =>
            rw [List.all_cons, Bool.and_eq_true] at h3
            exact re_call F hr ok.gd q1 hm hk hb h2 q2 (plain_star h3.1) (plains_pl h3.2)
        · split at h
          · rename_i z l kl hz h1 hk1
            cases h
            have hz1 := List.mem_of_find?_eq_some hz
            have hz2 := List.find?_some hz
            have hz2 := of_decide_eq_true hz2
            obtain ⟨h2, h3⟩ := lOf_ok (E := E) R ok h1
            have kk := kOf_ok (E := E) R ok hk1
            have hlen : kws.length = z.2.1.length := by
              have := congrArg List.length hz2.2
              simpa using this
            rw [hlen] at kk
            have hKw := hkw z hz1
            cases es with
            | nil =>
              simp only [lOf, Option.some.injEq] at h1
              subst h1
              have h0 : z.1 = 0 := hz2.1
              rw [h0] at hKw
              exact re_callK0 F hr ok.gd q1 hm hk hKw kk hz2.2 q2
            | cons e es =>
              have hpl := plains_pl (env := X.env) (pos := pos) h3
              rw [List.all_cons, Bool.and_eq_true] at h3
              rw [← hz2.1] at h2
              exact re_callK F hr ok.gd q1 hm hk hKw h2 kk (plain_star h3.1) hpl hz2.2 q2
          · cases h
      · rename_i id m hl
        obtain ⟨hm, hv, hn, hc⟩ := ok.gl _ _ hl
        split at h
        · obtain ⟨l, h1, rfl⟩ := map_some h
          obtain ⟨h2, h3⟩ := mOf_ok (E := E) R ok h1
          rw [List.all_cons, Bool.and_eq_true] at h3
          exact re_callB (hc X ok.calm ok.gd ok.un) q1 hm hv h2 hn q2 (plain_star h3.1) (plains_pl h3.2)
        · cases h
      · rename_i id m hl
        obtain ⟨hm, hv, hn, hc⟩ := ok.gl _ _ hl
        split at h
        · obtain ⟨l, h1, rfl⟩ := map_some h
          obtain ⟨h2, h3⟩ := mOf_ok (E := E) R ok h1
          rw [List.all_cons, Bool.and_eq_true] at h3
          exact re_callT (hc X ok.calm ok.gd ok.un) q1 hm hv h2 hn q2 (plain_star h3.1) (plains_pl h3.2)
        · cases h
      · cases h
    · cases h
  · cases h

/-! ### tests -/
def boolT (r : Rec) (g : Sg) (f : CT → CT → CT) : List Expr → Option CT
  | [] => none
  | [a] => r.t g a
  | a :: b :: es => match r.t g a, boolT r g f (b :: es) with
    | some x, some y => some (f x y)
    | _, _ => none
def tOf (r : Rec) (g : Sg) (e : Expr) : Option CT := match e with
  | .Compare a ops bs p => cmpOf r g (.Compare a ops bs p)
  | .BoolOp .And es _ => boolT r g tAn es
  | .BoolOp .Or es _ => boolT r g tOr' es
  | .UnaryOp .Not a _ => (r.t g a).map tNo
  | e => if noTest e = true then (bOf r g e).map tTru else none
section
variable {r : Rec} (R : RecOk r) {X : Cx} {g : Sg} {E : Xn → Prop} {pos : Pos} (ok : SgOk X g)
include R ok
theorem boolT_and : ∀ {es : List Expr} {c : CT}, boolT r g tAn es = some c → PW X (.BoolOp .And es pos) (rdT X.K E c)
  | [], _, h => by cases h
  | [a], _, h => pw_and1 (R.t ok h)
  | a :: b :: es, _, h => by
    unfold boolT at h
    split at h
    · cases h; exact rw_and (R.t ok ‹_›) (boolT_and ‹_›)
    · cases h
theorem boolT_or : ∀ {es : List Expr} {c : CT}, boolT r g tOr' es = some c → PW X (.BoolOp .Or es pos) (rdT X.K E c)
  | [], _, h => by cases h
  | [a], _, h => pw_or1 (R.t ok h)
  | a :: b :: es, _, h => by
    unfold boolT at h
    split at h
    · cases h; exact rw_or (R.t ok ‹_›) (boolT_or ‹_›)
    · cases h
theorem tOf_ok {e : Expr} {c : CT} (h : tOf r g e = some c) : PT X e (rdT X.K E c) := by
  unfold tOf at h
  split at h
  · exact (cmpOf_ok R ok h).2
  · exact (boolT_and R ok h).pt
  · exact (boolT_or R ok h).pt
  · obtain ⟨t, h1, rfl⟩ := map_some h
    exact rt_not (R.t ok h1)
  · split at h
    · rename_i hn
      obtain ⟨t, h1, rfl⟩ := map_some h
      exact rt_tru (bOf_ok R ok h1) (noTest_is hn)
    · cases h
end
end DL

namespace DL
open PySem L2

/-! ### rules for what is walked -/
abbrev IR := Rec → Sg → Expr → Expr → Option CI
def IrOk (f : IR) : Prop := ∀ {r : Rec}, RecOk r → ∀ {X : Cx} {g : Sg} {E : Xn → Prop} {tg e : Expr} {c : CI}, SgOk X g → f r g tg e = some c → PI X tg e (rdI X.K E c)
def spB (g : Sg) (x y : Str) : Bool := decide (x = y) && globB g x && (match g.gl.lookup x with | some .sp => true | _ => false)
theorem spB_is {X : Cx} {g : Sg} (ok : SgOk X g) {x y : Str} (h : spB g x y = true) : x = y ∧ Gl X y ∧ X.mg y = none := by
  unfold spB at h
  rw [Bool.and_eq_true, Bool.and_eq_true] at h
  obtain ⟨⟨h1, h2⟩, h3⟩ := h
  have h1 := of_decide_eq_true h1
  subst h1
  refine ⟨rfl, (globB_is ok h2).1, ?_⟩
  split at h3
  · rename_i hl; exact ok.gl _ _ hl
  · cases h3
def iRange : IR := fun r g _ e => match e with
  | .Call (.Name x _) es [] _ => if (spB g x "range" && decide (es.length = 1 ∨ es.length = 2 ∨ es.length = 3)) = true then (lOf r g es).map iRng else none
  | _ => none
theorem iRange_ok : IrOk iRange := by
  intro r R X g E tg e c ok h
  unfold iRange at h
  split at h
  · rename_i x p es pos
    split at h
    · rename_i hs
      rw [Bool.and_eq_true] at hs
      obtain ⟨rfl, q1, q2⟩ := spB_is ok hs.1
      have hl := of_decide_eq_true hs.2
      obtain ⟨l, h1, rfl⟩ := map_some h
      obtain ⟨h2, h3⟩ := lOf_ok (E := E) R ok h1
      rcases hl with hl | hl | hl
      · obtain ⟨a, rfl⟩ := len1 hl
        rw [List.all_cons, Bool.and_eq_true] at h3
        exact ri_range1 q1 q2 h2 (plain_star h3.1)
      · obtain ⟨a, b, rfl⟩ := len2 hl
        rw [List.all_cons, List.all_cons, Bool.and_eq_true, Bool.and_eq_true] at h3
        exact ri_range2 q1 q2 h2 (by rw [plain_star h3.1, plain_star h3.2.1]; rfl) (plain_star h3.2.1)
      · obtain ⟨a, b, d, rfl⟩ := len3 hl
        rw [List.all_cons, Bool.and_eq_true] at h3
        exact ri_range3 q1 q2 h2 (plain_star h3.1) (plains_pl h3.2)
    · cases h
  · cases h
def iPlain : IR := fun r g _ e => (fOf r g e).map iSeq
theorem iPlain_ok : IrOk iPlain := by
  intro r R X g E tg e c ok h
  obtain ⟨x, h1, rfl⟩ := map_some h
  exact ri_seq (fOf_ok R ok h1)

/-! ### list comprehensions -/
def ownOf (g : Sg) (scope : Scope) : List (Str × Nat) := scope.names.filterMap fun y => match y.2 with
  | .local => (g.N.idxOf? y.1).map fun i => (y.1, i)
  | .cell => (g.N.idxOf? y.1).map fun i => (y.1, i)
  | _ => none
def blkSg (g : Sg) (scope : Scope) : Sg := { g with sc := relS scope g.sc, st := (scope.names.filter fun y => match y.2 with | .local => true | .cell => true | _ => false).map (·.1) }
def stB (sc' : Scope) (scope : Scope) (x : Str) : Bool := match sc'.names.lookup x with
  | some .local => true
  | some .cell => (match scope.names.lookup x with | some .cell => true | _ => false)
  | _ => false
theorem stB_is {sc' scope : Scope} {x : Str} (h : stB sc' scope x = true) : L2.Loc sc' x ∧ ((scope.names.lookup x == some .cell) = true ∨ sc'.names.lookup x = some .local) := by
  unfold stB at h
  unfold L2.Loc
  split at h
  · rename_i q; exact ⟨.inl q, .inr q⟩
  · rename_i q
    refine ⟨.inr q, .inl ?_⟩
    split at h
    · rename_i z; rw [z]; rfl
    · cases h
  · cases h
def testsOf (r : Rec) (g : Sg) : List Expr → Option CT
  | [] => some tYesD
  | [c] => r.t g c
  | _ => none
structure LcD where
  own : List (Str × Nat)
  sl : List Nat
  ci : CI
  gg : CG
  t : CT
  xe : CB
def lcOf (r : Rec) (g : Sg) (elt tg iter : Expr) (ifs : List Expr) (scope : Scope) : Option LcD :=
  if (blkC g.N g.sc scope (ownOf g scope) && (blkSg g scope).st.all (stB (relS scope g.sc) scope) && plainE iter && decide ((blkSg g scope).sc.kind = .function)) = true then
    match r.i g tg iter, gOf (blkSg g scope) 6 tg, testsOf r (blkSg g scope) ifs, fOf r (blkSg g scope) elt with
    | some ci, some (sl, gg), some t, some xe => if (sl.all fun i => decide (i ∈ (ownOf g scope).map (·.2))) = true then some ⟨ownOf g scope, sl, ci, gg, t, xe⟩ else none
    | _, _, _, _ => none
  else none
def LcD.c (d : LcD) : CV := cLc (d.own.map (·.2)) d.ci d.gg d.t d.xe
structure LcOk (X : Cx) (E : Xn → Prop) (elt tg iter : Expr) (ifs : List Expr) (scope : Scope) (d : LcD) : Prop where
  hsl : ∀ i ∈ d.sl, i ∈ d.own.map (·.2)
  hi : PI X tg iter (rdI X.K E d.ci)
  ok : BlkOk X.N X.env.scope scope d.own
  hg : ∀ (s : Shared) (H : Hp) (C : Addr) (cl : List (Str × Addr)) (fp : List Addr), PG (X.blk s H scope (compEnvC scope cl C X.env) fp) tg (rdG X.K E d.sl d.gg)
  ht : ∀ (s : Shared) (H : Hp) (C : Addr) (cl : List (Str × Addr)) (fp : List Addr), PTs (X.blk s H scope (compEnvC scope cl C X.env) fp) ifs (rdT X.K E d.t)
  he : ∀ (s : Shared) (H : Hp) (C : Addr) (cl : List (Str × Addr)) (fp : List Addr), PE (X.blk s H scope (compEnvC scope cl C X.env) fp) elt (rdF X.K E d.xe)
  hs : ∀ x, foldedSetIterable iter X.env x = pure x
theorem blkSg_ok {X : Cx} {g : Sg} (ok : SgOk X g) {scope : Scope} (h1 : (blkSg g scope).st.all (stB (relS scope g.sc) scope) = true) (h2 : (blkSg g scope).sc.kind = .function) (s : Shared) (H : Hp) (C : Addr) (cl : List (Str × Addr)) (fp : List Addr) :
    SgOk (X.blk s H scope (compEnvC scope cl C X.env) fp) (blkSg g scope) where
  N := ok.N
  nd := ok.nd
  sc := by
    show relS scope X.env.scope = relS scope g.sc
    rw [ok.sc]
  kind := h2
  calm := ok.calm
  gd := ok.gd
  un := ok.un
  st := fun x hx => by
    have := List.all_eq_true.mp h1 x hx
    obtain ⟨a, b⟩ := stB_is this
    exact ⟨a, b⟩
  gl := ok.gl
theorem lcOf_ok {r : Rec} (R : RecOk r) {X : Cx} {g : Sg} {E : Xn → Prop} (ok : SgOk X g) {elt tg iter : Expr} {ifs : List Expr} {scope : Scope} {d : LcD} (h : lcOf r g elt tg iter ifs scope = some d) : LcOk X E elt tg iter ifs scope d := by
  unfold lcOf at h
  split at h
  · rename_i hb
    rw [Bool.and_eq_true, Bool.and_eq_true, Bool.and_eq_true] at hb
    obtain ⟨⟨⟨b1, b2⟩, b3⟩, b4⟩ := hb
    have b4 := of_decide_eq_true b4
    split at h
    · rename_i ci sl gg t xe h1 h2 h3 h4
      split at h
      · rename_i hs
        cases h
        have bk := blkSg_ok ok b2 b4
        refine ⟨fun i hi => of_decide_eq_true (List.all_eq_true.mp hs i hi), R.i ok h1, ?_, fun s H C cl fp => gOf_ok (p := (sl, gg)) (bk s H C cl fp) h2, fun s H C cl fp => ?_, fun s H C cl fp => fOf_ok R (bk s H C cl fp) h4, plain_set b3⟩
        · rw [ok.N, ok.sc]; exact blkOk_by b1
        · unfold testsOf at h3
          split at h3
          · cases h3; exact rts_nil
          · exact pts_one (R.t (bk s H C cl fp) h3)
          · cases h3
      · cases h
    · cases h
  · cases h
def vLc : VR := fun r g e => match e with
  | .ListComp elt [⟨tg, iter, ifs, 0⟩] scope _ => (lcOf r g elt tg iter ifs scope).map LcD.c
  | _ => none
theorem vLc_ok : VrOk vLc := by
  intro r R X g E e c ok h
  unfold vLc at h
  split at h
  · obtain ⟨d, h1, rfl⟩ := map_some h
    have L := lcOf_ok (E := E) R ok h1
    exact re_lc L.hsl ok.calm (by rw [ok.N]; exact ok.nd) L.hi L.ok L.hg L.ht L.he L.hs
  · cases h
/-- name = [..]: the list stored ahead of the block's end -/
def swB (g : Sg) (scope : Scope) (y : Str) (l1 l2 : Nat) : Bool := (match g.sc.names.lookup y with | some .local => true | _ => false) && (l1 == l2) && !(scope.names.any fun (n, k) => n == y && (k == .local || k == .cell))
theorem sw_lc {X : Cx} {g : Sg} (ok : SgOk X g) {elt : Expr} {gs : List Comprehension} {scope : Scope} {pos py : Pos} {y : Str} {l : Nat} : swapsWith (.ListComp elt gs scope pos) (some (.Name y py)) l X.env = pure (swB g scope y py.line pos.line) := by
  have hk : X.env.scope.kind = .function := by rw [ok.sc]; exact ok.kind
  have hb : X.env.blockKind = .function := by unfold PySem.Env.blockKind; rw [hk]; rfl
  have e1 : (match g.sc.names.lookup y with | some .local => true | _ => false) = (X.env.kindOf y == some .local) := by
    show _ = (X.env.scope.names.lookup y == some .local)
    rw [ok.sc]
    cases g.sc.names.lookup y with
    | none => rfl
    | some k => cases k <;> rfl
  unfold swapsWith swB
  rw [e1]
  simp only [hb, Expr.pos]
  rfl

/-! ### rules for statements -/
abbrev SR := Rec → Sg → Stmt → Option CS
def SrOk (f : SR) : Prop := ∀ {r : Rec}, RecOk r → ∀ {X : Cx} {g : Sg} {E : Xn → Prop} {st : Stmt} {c : CS}, SgOk X g → PassesOwn (model X.prog X.w) X.A X.env X.xe → f r g st = some c → PS X st (rdS X.K E c)
def ssOf (r : Rec) (g : Sg) : List Stmt → Option CS
  | [] => some sNil
  | [s] => r.s g s
  | s :: s2 :: ss => match r.s g s, ssOf r g (s2 :: ss) with
    | some a, some b => some (sSeq a b)
    | _, _ => none
theorem ssOf_ok {r : Rec} (R : RecOk r) {X : Cx} {g : Sg} {E : Xn → Prop} (ok : SgOk X g) (hp : PassesOwn (model X.prog X.w) X.A X.env X.xe) : ∀ {ss : List Stmt} {c : CS}, ssOf r g ss = some c → PSs X ss (rdS X.K E c)
  | [], _, h => by cases h; exact rss_nil
  | [s], _, h => rss_one (R.s ok hp h)
  | s :: s2 :: ss, _, h => by
    unfold ssOf at h
    split at h
    · cases h; exact rss_cons (R.s ok hp ‹_›) (ssOf_ok R ok hp ‹_›)
    · cases h
/-- x.pop(), x.pop(e); or any -/
def uOfE (r : Rec) (g : Sg) (e : Expr) : Option CU := match e with
  | .Call (.Attribute (.Name x _) m ap) [] [] cp => if m = ("pop" : Str) ∧ (ap.endLine == cp.line) = true then (slotOf g x).map uPop else (fOf r g e).map uOf
  | .Call (.Attribute (.Name x _) m ap) [a] [] cp => if m = ("pop" : Str) ∧ (ap.endLine == cp.line) = true ∧ plainE a = true then match slotOf g x, fOf r g a with
    | some i, some c => some (uPopAt i c)
    | _, _ => none else (fOf r g e).map uOf
  | e => (fOf r g e).map uOf
theorem few1 {a : Expr} {X : Cx} {pos : Pos} (h : plainE a = true) : ((backTo pos (starEach [a] X.env)).all (fun x => !x.1) && (backToKw pos (keywordEach [] X.env)).all (fun x => x.1.isSome) && decide ([a].length + ([] : List Keyword).length + (if ([] : List Keyword).isEmpty then 0 else 1) < 30)) = true := by
  rw [plain_star h]
  rfl
theorem uOfE_ok {r : Rec} (R : RecOk r) {X : Cx} {g : Sg} {E : Xn → Prop} (ok : SgOk X g) {e : Expr} {c : CU} (h : uOfE r g e = some c) : PE X e (rdU X.K E c) := by
  have gen : ∀ {e : Expr}, (fOf r g e).map uOf = some c → PE X e (rdU X.K E c) := fun h => by
    obtain ⟨a, h1, rfl⟩ := map_some h
    exact ru_of (fOf_ok R ok h1)
  unfold uOfE at h
  split at h
  · split at h
    · rename_i hm
      obtain ⟨rfl, hl⟩ := hm
      obtain ⟨i, h1, rfl⟩ := map_some h
      obtain ⟨q1, q2, q3, q4⟩ := slotOf_is h1
      exact ru_pop (by rw [ok.N]; exact q1) (by rw [ok.sc]; exact q2) q3 q4 rfl hl
    · exact gen h
  · split at h
    · rename_i hm
      obtain ⟨rfl, hl, hp⟩ := hm
      split at h
      · rename_i i c h1 h2
        cases h
        obtain ⟨q1, q2, q3, q4⟩ := slotOf_is h1
        exact ru_popAt (by rw [ok.N]; exact q1) (by rw [ok.sc]; exact q2) q3 q4 (fOf_ok R ok h2) rfl (few1 hp) hl (plain_star hp) rfl
      · cases h
    · exact gen h
  · exact gen h
def isPop : Expr → Bool
  | .Call (.Attribute (.Name _ _) m _) _ [] _ => decide (m = ("pop" : Str))
  | _ => false
def sExpr : SR := fun r g st => match st with
  | .Pass _ => some sNil
  | .Expr (.Constant (.str _) _ _) _ => some sNil
  | .Expr e@(.Call (.Attribute (.Name x _) m ap) [a] [] cp) _ => if m = ("append" : Str) ∧ (ap.endLine == cp.line) = true ∧ plainE a = true then match slotOf g x, uOfE r g a with
    | some i, some u => some (sApp i u)
    | _, _ => none else (r.v g e).map sDrop
  | .Expr e _ => if noComp e = true then (r.v g e).map sDrop else none
  | _ => none
theorem sExpr_ok : SrOk sExpr := by
  intro r R X g E st c ok hp h
  unfold sExpr at h
  split at h
  · cases h; exact rs_pass
  · cases h
    exact PS.imp ps_doc fun Dn σ H ⟨B, F0, F, ρ, W, re, h, l⟩ => l.nx σ H F ρ re h
  · split at h
    · rename_i hm
      obtain ⟨rfl, hl, hpl⟩ := hm
      split at h
      · rename_i i u h1 h2
        cases h
        obtain ⟨q1, q2, q3, q4⟩ := slotOf_is h1
        exact rs_app (by rw [ok.N]; exact q1) (by rw [ok.sc]; exact q2) q3 q4 (uOfE_ok R ok h2) rfl (few1 hpl) hl (plain_star hpl) rfl (noComp_sw rfl _ _)
      · cases h
    · obtain ⟨v, h1, rfl⟩ := map_some h
      exact rs_drop (R.v ok h1) (noComp_sw rfl _ _)
  · split at h
    · rename_i hn
      obtain ⟨v, h1, rfl⟩ := map_some h
      exact rs_drop (R.v ok h1) (noComp_sw hn _ _)
    · cases h
  · cases h
def sName : SR := fun r g st => match st with
  | .Assign [.Name y py] (.ListComp elt [⟨tg, iter, ifs, 0⟩] scope pos) _ => if y ∈ g.st then match slotOf g y, lcOf r g elt tg iter ifs scope with
    | some i, some d => some (sSet i (decide (i ∈ g.own)) d.c)
    | _, _ => none else none
  | .Assign [.Name y _] e _ => if y ∈ g.st ∧ noComp e = true then
      if isPop e = true then match slotOf g y, uOfE r g e with
        | some i, some u => some (sSetU i u)
        | _, _ => none
      else match slotOf g y, r.v g e with
        | some i, some v => some (sSet i (decide (i ∈ g.own)) v)
        | _, _ => none
    else none
  | _ => none
theorem sName_ok : SrOk sName := by
  intro r R X g E st c ok hp h
  have hN : X.N.Nodup := by rw [ok.N]; exact ok.nd
  unfold sName at h
  split at h
  · rename_i y py elt tg iter ifs scope pos spos
    split at h
    · rename_i hs
      split at h
      · rename_i i d h1 h2
        cases h
        obtain ⟨q1, q2, q3, q4⟩ := slotOf_is h1
        obtain ⟨s1, s2⟩ := ok.st _ hs
        have L := lcOf_ok (E := E) R ok h2
        have h1' : X.N[i]? = some y := by rw [ok.N]; exact q1
        have s1' : L2.Loc X.env.scope y := by rw [ok.sc]; exact s1
        have s2' : X.fn y = true ∨ X.env.scope.names.lookup y = some .local := by rw [ok.sc]; exact s2
        cases hsw : swB g scope y py.line pos.line with
        | false => exact rs_set _ hN h1' s1' s2' (re_lc L.hsl ok.calm hN L.hi L.ok L.hg L.ht L.he L.hs) (by rw [sw_lc ok, hsw])
        | true =>
          have hyl : X.env.scope.names.lookup y = some .local := by
            rw [ok.sc]
            unfold swB at hsw
            rw [Bool.and_eq_true, Bool.and_eq_true] at hsw
            have := hsw.1.1
            split at this
            · assumption
            · cases this
          exact PS.imp (ps_setLc ok.calm hN h1' hyl (by rw [sw_lc ok, hsw]) L.hi L.ok L.hg L.ht L.he L.hs) fun Dn σ H h => lc_imp L.hsl (set_imp h)
      · cases h
    · cases h
  · split at h
    · rename_i hs
      obtain ⟨s1, s2⟩ := ok.st _ hs.1
      split at h
      · split at h
        · rename_i h1 h2
          cases h
          obtain ⟨q1, q2, q3, q4⟩ := slotOf_is h1
          exact rs_setU hN (by rw [ok.N]; exact q1) (by rw [ok.sc]; exact s1) (by rw [ok.sc]; exact s2) (uOfE_ok R ok h2) (noComp_sw hs.2 _ _)
        · cases h
      · split at h
        · rename_i h1 h2
          cases h
          obtain ⟨q1, q2, q3, q4⟩ := slotOf_is h1
          exact rs_set _ hN (by rw [ok.N]; exact q1) (by rw [ok.sc]; exact s1) (by rw [ok.sc]; exact s2) (R.v ok h2) (noComp_sw hs.2 _ _)
        · cases h
    · cases h
  · cases h
def notTup : Expr → Bool
  | .Tuple .. => false
  | _ => true
theorem stores_no {e tg : Expr} {env : PySem.Env} (h : notTup e = true) : swappedStores [tg] e env = pure none := by
  unfold swappedStores
  cases e <;> first | (cases tg <;> rfl) | cases h
def sTup : SR := fun r g st => match st with
  | .Assign [.Tuple ts k p] e _ => if (notTup e && noComp e) = true then match gOf g 6 (.Tuple ts k p), fOf r g e with
    | some (_, gg), some x => some (sAsg gg x)
    | _, _ => none else none
  | _ => none
theorem sTup_ok : SrOk sTup := by
  intro r R X g E st c ok hp h
  unfold sTup at h
  split at h
  · split at h
    · rename_i hn
      rw [Bool.and_eq_true] at hn
      split at h
      · rename_i sl gg x h1 h2
        cases h
        exact rs_asg (fOf_ok R ok h2) (gOf_ok (p := (sl, gg)) ok h1) (by unfold swapsWithSole; exact noComp_sw hn.2 _ _) (stores_no hn.1) rfl
      · cases h
    · cases h
  · cases h
def sFlow : SR := fun r g st => match st with
  | .Return (some e) _ => (fOf r g e).map sRet
  | .Return none _ => some sRetN
  | .If t a b _ => match r.t g t, ssOf r g a, ssOf r g b with
    | some t, some a, some b => some (sIf t a b)
    | _, _, _ => none
  | .While t a [] _ => match r.t g t, ssOf r g a with
    | some t, some a => some (sWhile t a)
    | _, _ => none
  | .For tg it a [] _ => if plainE it = true then match r.i g tg it, gOf g 6 tg, ssOf r g a with
    | some ci, some (_, gg), some a => some (sFor ci gg a)
    | _, _, _ => none else none
  | .Break _ => some sBrk
  | .Continue _ => some sCnt
  | .Raise .. => some sNo
  | _ => none
theorem sFlow_ok : SrOk sFlow := by
  intro r R X g E st c ok hp h
  unfold sFlow at h
  split at h
  · obtain ⟨x, h1, rfl⟩ := map_some h
    exact rs_ret (fOf_ok R ok h1)
  · cases h; exact rs_retN
  · split at h
    · cases h; exact rs_if (R.t ok ‹_›) (ssOf_ok R ok hp ‹_›) (ssOf_ok R ok hp ‹_›)
    · cases h
  · split at h
    · cases h; exact rs_while hp (R.t ok ‹_›) (ssOf_ok R ok hp ‹_›)
    · cases h
  · split at h
    · rename_i hpl
      split at h
      · rename_i ci sl gg a h1 h2 h3
        cases h
        exact rs_for hp ok.calm (R.i ok h1) (gOf_ok (p := (sl, gg)) ok h2) (ssOf_ok R ok hp h3) (plain_set hpl)
      · cases h
    · cases h
  · cases h; exact rs_brk
  · cases h; exact rs_cnt
  · cases h; exact rs_no
  · cases h
theorem sub_asg {o i : Expr} {env : PySem.Env} {pos : Pos} {v : Value} (h : plainE i = true) : assign (.Subscript o i pos) env v = (do
      let ov ← holding [v] (eval o env)
      let iv ← holding [v, ov] (eval i env)
      standAt pos
      holding [v, ov, iv] (setItem ov iv v)
      release [v, ov, iv] []) := by
  cases i <;> first | rfl | cases h
def sSub : SR := fun r g st => match st with
  | .Assign [.Subscript (.Name x _) ix _] e _ => if (plainE ix && noComp e && notTup e) = true then match slotOf g x, fOf r g e, fOf r g ix with
    | some i, some c, some k => some (sPut i c k)
    | _, _, _ => none else none
  | _ => none
theorem sSub_ok : SrOk sSub := by
  intro r R X g E st c ok hp h
  unfold sSub at h
  split at h
  · split at h
    · rename_i hn
      rw [Bool.and_eq_true, Bool.and_eq_true] at hn
      split at h
      · rename_i i c k h1 h2 h3
        cases h
        obtain ⟨q1, q2, q3, q4⟩ := slotOf_is h1
        exact rs_put (by rw [ok.N]; exact q1) (by rw [ok.sc]; exact q2) q3 q4 (fOf_ok R ok h2) (fOf_ok R ok h3) (fun v => sub_asg hn.1.1) (by unfold swapsWithSole; exact noComp_sw hn.1.2 _ _) (stores_no hn.2) rfl
      · cases h
    · cases h
  · cases h
end DL

namespace DL
open PySem L2

/-! ### two names at once -/
def parB (g : Sg) (x y : Str) (l1 l2 lt : Nat) (a b : Expr) : Bool :=
  plainE a && plainE b && (match g.sc.names.lookup x with | some .local => true | _ => false) && (match g.sc.names.lookup y with | some .local => true | _ => false) && (l1 == l2) && !(x == y) &&
    !([a, b].all (foldedForSure 8)) && !([a, b].all (constantsAlone 8))
def isStar : Expr → Bool
  | .Starred .. => true
  | _ => false
theorem star1 {a : Expr} (h : plainE a = true) : isStar a = false := by
  cases a <;> first | rfl | cases h
theorem par_sw {X : Cx} {g : Sg} (ok : SgOk X g) {x y : Str} {px py pt : Pos} {kt : Nat} {k2 : Nat} {pt2 : Pos} {a b : Expr} (h : parB g x y px.line py.line 0 a b = true) :
    swappedStores [.Tuple [.Name x px, .Name y py] kt pt] (.Tuple [a, b] k2 pt2) X.env = pure (some [x, y]) := by
  unfold parB at h
  simp only [Bool.and_eq_true, Bool.not_eq_true'] at h
  obtain ⟨⟨⟨⟨⟨⟨⟨h1, h2⟩, h3⟩, h4⟩, h5⟩, h6⟩, h7⟩, h8⟩ := h
  have hk : X.env.scope.kind = .function := by rw [ok.sc]; exact ok.kind
  have hb : X.env.blockKind = .function := by unfold PySem.Env.blockKind; rw [hk]; rfl
  have l1 : X.env.kindOf x = some .local := by
    show X.env.scope.names.lookup x = _
    rw [ok.sc]
    split at h3
    · assumption
    · cases h3
  have l2 : X.env.kindOf y = some .local := by
    show X.env.scope.names.lookup y = _
    rw [ok.sc]
    split at h4
    · assumption
    · cases h4
  have hl : py.line = px.line := by have := (beq_iff_eq (a := px.line) (b := py.line)).mp h5; exact this.symm
  have hs : ([a, b].any fun | .Starred .. => true | _ => false) = false := by
    show (isStar a || (isStar b || false)) = false
    rw [star1 h1, star1 h2]
    rfl
  have hxy : (y == x) = false := by
    cases q : (y == x) with
    | false => rfl
    | true => rw [beq_iff_eq] at q; subst q; rw [beq_self_eq_true] at h6; cases h6
  unfold swappedStores
  simp only [hb, l1, l2, hl, h7, h8, hs, List.filterMap_cons, List.filterMap_nil, List.length_cons, List.length_nil, List.head?_cons, Option.map_some, Option.getD_some, Expr.pos]
  simp [List.eraseDups_cons, hxy]
  intro q
  have s1 := star1 h1
  have s2 := star1 h2
  unfold isStar at s1 s2
  rcases q with q | q
  · have : isStar a = true := q
    rw [star1 h1] at this; cases this
  · have : isStar b = true := q
    rw [star1 h2] at this; cases this
def sPair : SR := fun r g st => match st with
  | .Assign [.Tuple [.Name x px, .Name y py] _ _] (.Tuple [a, b] _ _) _ => if parB g x y px.line py.line 0 a b = true then match slotOf g x, slotOf g y, r.v g a, r.v g b with
    | some i, some j, some c, some d => if i = j then none else some (sPar i j (decide (i ∈ g.own)) (decide (j ∈ g.own)) c d)
    | _, _, _, _ => none else none
  | _ => none
theorem sPair_ok : SrOk sPair := by
  intro r R X g E st c ok hp h
  unfold sPair at h
  split at h
  · rename_i x px y py kt pt a b k2 pt2 pos
    split at h
    · rename_i hb
      split at h
      · rename_i i j c d h1 h2 h3 h4
        split at h
        · cases h
        · rename_i hij
          cases h
          have hb2 := hb
          unfold parB at hb2
          simp only [Bool.and_eq_true] at hb2
          obtain ⟨⟨⟨⟨⟨⟨⟨b1, b2⟩, b3⟩, b4⟩, _⟩, _⟩, _⟩, _⟩ := hb2
          obtain ⟨q1, _⟩ := slotOf_is h1
          obtain ⟨q2, _⟩ := slotOf_is h2
          have l1 : X.env.scope.names.lookup x = some .local := by
            rw [ok.sc]
            split at b3
            · assumption
            · cases b3
          have l2 : X.env.scope.names.lookup y = some .local := by
            rw [ok.sc]
            split at b4
            · assumption
            · cases b4
          exact rs_par _ _ ok.calm (by rw [ok.N]; exact ok.nd) (by rw [ok.N]; exact q1) (by rw [ok.N]; exact q2) hij l1 l2 (R.v ok h3) (R.v ok h4) (plain_star b1) (plain_star b2) (par_sw ok hb) rfl
      · cases h
    · cases h
  · cases h

/-! ### the reader -/
def minus (g : Sg) (is : List Nat) : Sg := { g with own := g.own.filter fun i => !is.contains i }
theorem minus_ok {X : Cx} {g : Sg} (ok : SgOk X g) (is : List Nat) : SgOk X (minus g is) := ⟨ok.N, ok.nd, ok.sc, ok.kind, ok.calm, ok.gd, ok.un, ok.st, ok.gl⟩
structure Rules where
  v : List VR
  i : List IR
  s : List SR
structure RulesOk (R : Rules) : Prop where
  v : ∀ f ∈ R.v, VrOk f
  i : ∀ f ∈ R.i, IrOk f
  s : ∀ f ∈ R.s, SrOk f
def sTry (R : Rules) (r : Rec) (g : Sg) (st : Stmt) : Option CS := R.s.findSome? fun f => f r g st
def frzAll (is : List Nat) (c : CS) : CS := is.foldr sFrz c
def sStep (R : Rules) (r : Rec) (g : Sg) (st : Stmt) : Option CS := match sTry R r g st with
  | some c => some c
  | none => match g.own.findSome? (fun i => (sTry R r (minus g [i]) st).map (sFrz i)) with
    | some c => some c
    | none => if g.own.isEmpty = true then none else (sTry R r (minus g g.own) st).map (frzAll g.own)
/-! ### a test may look at what is one's own -/
def frzE (ρ : Env) : List Nat → Env
  | [] => ρ
  | i :: is => match (frzE ρ is)[i]? with
    | some (.ow d _) => (frzE ρ is).set i (.sh d)
    | _ => frzE ρ is
theorem REnv.frzE {K : PySem.W.Frag} {B F0 F H : Hp} {σ : L2.St} {ρ : Env} (re : REnv K B F0 F H σ ρ) : ∀ is : List Nat, ∃ F2, REnv K B F0 F2 H σ (frzE ρ is)
  | [] => ⟨F, re⟩
  | i :: is => by
    obtain ⟨F2, re2⟩ := REnv.frzE re is
    unfold DL.frzE
    split
    · rename_i d z e
      exact re2.frz e
    · exact ⟨F2, re2⟩
def tLend (is : List Nat) (t : CT) : CT := fun ρ => t (frzE ρ is)
theorem rt_lend {X : Cx} {E : Xn → Prop} {e : Expr} {t : CT} (is : List Nat) (h : PT X e (rdT X.K E t)) : PT X e (rdT X.K E (tLend is t)) := h.imp fun σ H Q' ⟨B, F0, F, ρ, Q, re, h, k⟩ => by
  obtain ⟨F2, re2⟩ := re.frzE is
  exact ⟨B, F0, F2, _, Q, re2, h, fun b H' F' g q => k b H' F ⟨g.h, Same.refl F, re.fh.trans g.h, fun _ _ e => .inl e⟩ q⟩
def tStep (r : Rec) (g : Sg) (e : Expr) : Option CT := match tOf r g e with
  | some c => some c
  | none => if g.own.isEmpty = true then none else (tOf r (minus g g.own) e).map (tLend g.own)
theorem tStep_ok {r : Rec} (R : RecOk r) {X : Cx} {g : Sg} {E : Xn → Prop} (ok : SgOk X g) {e : Expr} {c : CT} (h : tStep r g e = some c) : PT X e (rdT X.K E c) := by
  unfold tStep at h
  split at h
  · rename_i q; cases h; exact tOf_ok R ok q
  · split at h
    · cases h
    · obtain ⟨c2, h2, rfl⟩ := map_some h
      exact rt_lend _ (tOf_ok R (minus_ok ok _) h2)
def stepR (R : Rules) (r : Rec) : Rec where
  v := fun g e => R.v.findSome? fun f => f r g e
  t := tStep r
  i := fun g tg e => R.i.findSome? fun f => f r g tg e
  s := sStep R r
def recN (R : Rules) : Nat → Rec
  | 0 => ⟨fun _ _ => none, fun _ _ => none, fun _ _ _ => none, fun _ _ => none⟩
  | n + 1 => stepR R (recN R n)
theorem frzAll_ok {X : Cx} {E : Xn → Prop} {st : Stmt} : ∀ (is : List Nat) {c : CS}, PS X st (rdS X.K E c) → PS X st (rdS X.K E (frzAll is c))
  | [], _, h => h
  | i :: is, _, h => rs_frz i (frzAll_ok is h)
theorem recN_ok {R : Rules} (O : RulesOk R) : ∀ n, RecOk (recN R n)
  | 0 => by
    refine ⟨fun {X g E e c} ok h => ?_, fun {X g E e c} ok h => ?_, fun {X g E tg e c} ok h => ?_, fun {X g E st c} ok hp h => ?_⟩
    · exact absurd (show (none : Option CV) = some c from h) (by simp)
    · exact absurd (show (none : Option CT) = some c from h) (by simp)
    · exact absurd (show (none : Option CI) = some c from h) (by simp)
    · exact absurd (show (none : Option CS) = some c from h) (by simp)
  | n + 1 => by
    have ih := recN_ok O n
    have tr : ∀ {X : Cx} {g : Sg} {E : Xn → Prop} {st : Stmt} {c : CS}, SgOk X g → PassesOwn (model X.prog X.w) X.A X.env X.xe → sTry R (recN R n) g st = some c → PS X st (rdS X.K E c) := by
      intro X g E st c ok hp h
      obtain ⟨f, hf, h1⟩ := List.exists_of_findSome?_eq_some h
      exact O.s f hf ih ok hp h1
    refine ⟨fun {X g E e c} ok h => ?_, fun {X g E e c} ok h => tStep_ok ih ok h, fun {X g E tg e c} ok h => ?_, fun {X g E st c} ok hp h => ?_⟩
    · obtain ⟨f, hf, h1⟩ := List.exists_of_findSome?_eq_some h
      exact O.v f hf ih ok h1
    · obtain ⟨f, hf, h1⟩ := List.exists_of_findSome?_eq_some h
      exact O.i f hf ih ok h1
    · have h : sStep R (recN R n) g st = some c := h
      unfold sStep at h
      split at h
      · rename_i q; cases h; exact tr ok hp q
      · split at h
        · rename_i q
          cases h
          obtain ⟨i, hi, h1⟩ := List.exists_of_findSome?_eq_some q
          obtain ⟨c2, h2, rfl⟩ := map_some h1
          exact rs_frz i (tr (minus_ok ok _) hp h2)
        · split at h
          · cases h
          · obtain ⟨c2, h2, rfl⟩ := map_some h
            exact frzAll_ok _ (tr (minus_ok ok _) hp h2)
end DL

namespace DL
open PySem L2

/-! ### defs -/
def GvB (P : Program) (w : World) (K : PySem.W.Frag) (mg : Str → Option Value) (base : Heap) (k : Nat) (x : Str) : GV → Prop
  | .fn n m kw => ∃ (j : Nat) (f : Addr) (fd : FuncData) (ps : List Str), j ≤ k ∧ FnG P w K mg base CX0 j f fd ps (SpM K ps.length m) ∧ mg x = some (.ref f) ∧ PySem.W.keepIn K (.ref f) = true ∧ Binds K fd ps [] ∧ ps.length = n ∧
      ∀ z ∈ kw, KwOk K fd ps z.1 z.2.1 z.2.2
  | .fo n m kw => ∃ (j : Nat) (f : Addr) (fd : FuncData) (ps : List Str), j ≤ k ∧ FnG P w K mg base CX0 j f fd ps (SpF true K ps.length m) ∧ mg x = some (.ref f) ∧ PySem.W.keepIn K (.ref f) = true ∧ Binds K fd ps [] ∧ ps.length = n ∧
      ∀ z ∈ kw, KwOk K fd ps z.1 z.2.1 z.2.2
  | .cv d => ∃ (v : V) (u : Value), mg x = some u ∧ RelV v u ∧ ∀ F, Rep K F v d
  | .bi id m => mg x = none ∧ bootBuiltins x = some (.builtin id) ∧ x ≠ "__name__" ∧ ∀ Y : Cx, Y.calm = true → Y.A.guards = some [] → Y.A.units + 110 < cLine → CallR Y (.builtin id) (rcM Y.K m)
  | .ty T m => mg x = none ∧ bootBuiltins x = some (.type T) ∧ x ≠ "__name__" ∧ ∀ Y : Cx, Y.calm = true → Y.A.guards = some [] → Y.A.units + 110 < cLine → CallR Y (.type T) (rcM Y.K m)
  | .sp => mg x = none
def GlB (P : Program) (w : World) (K : PySem.W.Frag) (mg : Str → Option Value) (base : Heap) (k : Nat) (gl : List (Str × GV)) : Prop := ∀ p ∈ gl, GvB P w K mg base k p.1 p.2
section
variable {P : Program} {w : World} {K : PySem.W.Frag} {mg : Str → Option Value} {base : Heap} {k : Nat} {gl : List (Str × GV)}
theorem GvB.mono {x : Str} {v : GV} {j : Nat} (h : GvB P w K mg base j x v) (hj : j ≤ k) : GvB P w K mg base k x v := by
  cases v with
  | fn n m kw => obtain ⟨i, f, fd, ps, h1, h2⟩ := h; exact ⟨i, f, fd, ps, Nat.le_trans h1 hj, h2⟩
  | fo n m kw => obtain ⟨i, f, fd, ps, h1, h2⟩ := h; exact ⟨i, f, fd, ps, Nat.le_trans h1 hj, h2⟩
  | _ => exact h
theorem GlB.nil : GlB P w K mg base k [] := fun p hp => by cases hp
theorem GlB.cons {x : Str} {v : GV} {j : Nat} (hv : GvB P w K mg base k x v) (h : GlB P w K mg base j gl) (hj : j ≤ k) : GlB P w K mg base k ((x, v) :: gl) := fun p hp => by
  rcases List.mem_cons.mp hp with rfl | hp
  · exact hv
  · exact (h p hp).mono hj
theorem GlB.mono {j : Nat} (h : GlB P w K mg base j gl) (hj : j ≤ k) : GlB P w K mg base k gl := fun p hp => (h p hp).mono hj
theorem mem_of_look {x : Str} {v : GV} : ∀ {gl : List (Str × GV)}, gl.lookup x = some v → (x, v) ∈ gl
  | (y, u) :: gl, h => by
    rw [List.lookup_cons] at h
    split at h
    · rename_i q
      cases h
      rw [beq_iff_eq] at q
      subst q
      exact List.mem_cons_self
    · exact List.mem_cons_of_mem _ (mem_of_look h)
def stsOf (sc : Scope) : List Str := (sc.names.map (·.1)).filter fun x => match sc.names.lookup x with | some .local => true | some .cell => true | _ => false
def mkSg (N : List Str) (sc : Scope) (gl : List (Str × GV)) (own : List Nat) (ro : Bool := false) : Sg := ⟨N, sc, stsOf sc, gl, own, ro⟩
def startE (N : List Str) (ds : List D) : Env := ds.map .sh ++ List.replicate (N.length - ds.length) .no
theorem start_env {F H : Hp} {N : List Str} {vs : List V} {ds : List D} (s : Same F H) (r : RepL K F vs ds) : REnv K H F F H (L2.start N vs) (startE N ds) where
  bh := Same.refl H
  f0 := Same.refl F
  fh := s
  fr := fun _ _ e => .inl e
  len := by unfold L2.start startE; rw [List.length_append, List.length_append, List.length_map, List.length_map, List.length_replicate, List.length_replicate, r.length]
  cell := fun i c e => by
    unfold startE at e
    unfold L2.start
    by_cases hi : i < ds.length
    · rw [List.getElem?_append_left (by simpa using hi), List.getElem?_map] at e
      obtain ⟨d, hd⟩ : ∃ d, ds[i]? = some d := ⟨_, List.getElem?_eq_getElem hi⟩
      rw [hd] at e
      cases e
      obtain ⟨v, h1, h2⟩ := r.get hd
      refine ⟨some v, ?_, v, rfl, h2⟩
      rw [List.getElem?_append_left (by rw [List.length_map, r.length]; exact hi), List.getElem?_map, h1]
      rfl
    · have hi' : ds.length ≤ i := Nat.le_of_not_lt hi
      rw [List.getElem?_append_right (by simpa using hi'), List.length_map] at e
      rw [List.getElem?_append_right (by rw [List.length_map, r.length]; exact hi'), List.length_map, r.length]
      rw [List.getElem?_replicate] at e ⊢
      split at e
      · rename_i q
        cases e
        exact ⟨none, by rw [if_pos q], trivial⟩
      · cases e
  dis := fun i j d e z y p _ h1 _ => by
    exfalso
    unfold startE at h1
    have hm := List.mem_of_getElem? h1
    rw [List.mem_append] at hm
    rcases hm with hm | hm
    · obtain ⟨d, _, q⟩ := List.mem_map.mp hm; cases q
    · have := List.eq_of_mem_replicate hm; cases this
theorem cx_ok {n : Nat} {qual : Str} {sc : Scope} {f : Addr} {N ps : List Str} {own : List Nat} {ro : Bool} {cdv : Value} {A : Around} {outer : List PySem.Env} {s : Shared} {H : Hp} {E : XK} (S : FnScope N ps sc) (hg : GlB P w K mg base k gl)
    (hr : Room k (A.deeper (PyProof.Rows.envOfC qual sc s.heap.objs.size f cdv))) (gd : A.guards = some []) : SgOk (cxOf CX0 P w K mg base N qual sc f cdv A outer s H E) (mkSg N sc gl own ro) := by
  refine ⟨rfl, S.nd, rfl, S.kind, rfl, gd, ?_, fun x hx => ?_, fun x v hx => ?_⟩
  · have := hr.un
    refine Nat.lt_of_le_of_lt ?_ this
    show (A.deeper _).units + 110 ≤ _
    omega
  · refine ⟨?_, .inl rfl⟩
    have hx : x ∈ stsOf sc := hx
    unfold stsOf at hx
    have := (List.mem_filter.mp hx).2
    split at this
    · rename_i q; exact .inl q
    · rename_i q; exact .inr q
    · cases this
  · have hx : gl.lookup x = some v := hx
    have q := hg _ (mem_of_look hx)
    cases v with
    | fn n m kw =>
      obtain ⟨j, f', fd', ps', hj, h1, h2⟩ := q
      exact ⟨j, f', fd', ps', h1, hr.mono hj, h2⟩
    | fo n m kw =>
      obtain ⟨j, f', fd', ps', hj, h1, h2⟩ := q
      exact ⟨j, f', fd', ps', h1, hr.mono hj, h2⟩
    | cv d => exact q
    | bi id m => exact q
    | ty T m => exact q
    | sp => exact q
theorem def_ok {R : Rules} (O : RulesOk R) {n : Nat} {x qual : Str} {st : Stmt} {f : Addr} {fd : FuncData} {N ps : List Str} {own : List Nat} {c : CS} {m : List D → M D} (F : Fun K x qual st f fd) (S : FnScope N ps (defScope st)) (hg : GlB P w K mg base k gl)
    (he : ssOf (recN R n) (mkSg N (defScope st) gl own) (defBody st) = some c) (hm : ∀ ds QD ED, m ds QD ED → c (startE N ds) { nx := fun _ => QD .non, rt := fun d _ => QD d } ED) : FnG P w K mg base CX0 (k + 1) f fd ps (SpM K ps.length m) := by
  refine Fun.okG F S (fun vs H Q E h => h.1) (fun cdv A outer s H vs Q E hr gd h => ?_)
  obtain ⟨hn, F0, ds, QD, ED, sm, r, hq, kq⟩ := h
  refine ⟨rdS K ED c, ssOf_ok (recN_ok O n) (g := mkSg N (defScope st) gl own) (cx_ok (n := n) S hg hr gd) PassesOwn.leaving he, H, F0, F0, startE N ds, _, start_env sm r, hm ds QD ED hq, ?_⟩
  exact ⟨fun σ' H' F' ρ' re q => kq .non H' F' .non re.gr0 (Val.of .non) q, fun v σ' H' F' ρ' d re rp q => kq v H' F' d re.gr0 (Val.of rp) q, fun σ' H' F' ρ' re q => (show False from q).elim, fun σ' H' F' ρ' re q => (show False from q).elim, fun _ _ _ _ _ _ _ _ _ _ q => (show False from q).elim⟩
/-- a def that gives out what is its own -/
theorem def_okO {R : Rules} (O : RulesOk R) {n : Nat} {x qual : Str} {st : Stmt} {f : Addr} {fd : FuncData} {N ps : List Str} {own : List Nat} {c : CS} {m : List D → M D} (F : Fun K x qual st f fd) (S : FnScope N ps (defScope st)) (hg : GlB P w K mg base k gl)
    (he : ssOf (recN R n) (mkSg N (defScope st) gl own true) (defBody st) = some c) (hm : ∀ ds QD ED, m ds QD ED → c (startE N ds) { nx := fun _ => False, rt := fun _ _ => False, ro := fun d _ => QD d } ED) : FnG P w K mg base CX0 (k + 1) f fd ps (SpF true K ps.length m) := by
  refine Fun.okG F S (fun vs H Q E h => h.1) (fun cdv A outer s H vs Q E hr gd h => ?_)
  obtain ⟨hn, F0, ds, QD, ED, sm, r, hq, kq⟩ := h
  refine ⟨rdS K ED c, ssOf_ok (recN_ok O n) (g := mkSg N (defScope st) gl own true) (cx_ok (n := n) S hg hr gd) PassesOwn.leaving he, H, F0, F0, startE N ds, _, start_env sm r, hm ds QD ED hq, ?_⟩
  exact ⟨fun σ' H' F' ρ' re q => (show False from q).elim, fun v σ' H' F' ρ' d re rp q => (show False from q).elim, fun σ' H' F' ρ' re q => (show False from q).elim, fun σ' H' F' ρ' re q => (show False from q).elim,
    fun p σ' H' F' ρ' d re h1 h2 h3 q => kq (.ref p) H' F' d re.gr0 (Val.own h1 h2 h3) q⟩
/-- a def's keywords -/
theorem Fun.kw {x qual : Str} {st : Stmt} {f : Addr} {fd : FuncData} {ps ks : List Str} {n : Nat} {is : List Nat} (F : Fun K x qual st f fd)
    (h : ∀ (kV doc pm : Value) (an : Option Addr) (cdv ct : Value) (us ws : List Value), us.length = n → ws.length = ks.length → bindArgs (PySem.W.fnOf x qual (defArgs st) (defBody st) (defScope st) .none kV doc pm an cdv ct) ⟨us, ks.zip ws⟩ = pure (ps.zip (pick is (us ++ ws)))) : KwOk K fd ps n ks is := by
  obtain ⟨oc, od, kV, doc, pm, an, cdv, ct, osl, rfl, lk, hcd⟩ := F.ex
  exact ⟨fun s us ws _ hu hw => .of_eq (h kV doc pm an cdv ct us ws hu hw)⟩
theorem GvB.fun {x : Str} {st : Stmt} {f : Addr} {fd : FuncData} {ps : List Str} {m : List D → M D} {kw : List (Nat × List Str × List Nat)} {n : Nat} (F : Fun K x x st f fd) (hx : mg x = some (.ref f)) (b : Binds K fd ps []) (h : FnG P w K mg base CX0 k f fd ps (SpM K ps.length m)) (hn : ps.length = n)
    (hk : ∀ z ∈ kw, KwOk K fd ps z.1 z.2.1 z.2.2) : GvB P w K mg base k x (.fn n m kw) := ⟨k, f, fd, ps, Nat.le_refl _, h, hx, F.kp, b, hn, hk⟩
theorem GvB.funO {x : Str} {st : Stmt} {f : Addr} {fd : FuncData} {ps : List Str} {m : List D → M D} {kw : List (Nat × List Str × List Nat)} {n : Nat} (F : Fun K x x st f fd) (hx : mg x = some (.ref f)) (b : Binds K fd ps []) (h : FnG P w K mg base CX0 k f fd ps (SpF true K ps.length m)) (hn : ps.length = n)
    (hk : ∀ z ∈ kw, KwOk K fd ps z.1 z.2.1 z.2.2) : GvB P w K mg base k x (.fo n m kw) := ⟨k, f, fd, ps, Nat.le_refl _, h, hx, F.kp, b, hn, hk⟩
end
end DL


/-! ### enumerate(v), v anything that begins and draws -/
namespace PySem
open Sem (wp)
theorem enum_new1 {v : Value} {o : Obj} {H : Heap → Prop} (B : Begins v o H) :
    Meets (Builtin.«enumerate.__new__» ⟨[.type "enumerate", v], []⟩) (fun _ R s => H s.heap ∧
      R (.ok (.ret (.ref (s.heap.push o).objs.size))) { s with heap := (s.heap.push o).push { cls := .type "enumerate", data := .fields #[.none, .bool false, .ref s.heap.objs.size, rawInt 0, .none, .none] } }) :=
  .of_wp fun prog w A R s h => by
    obtain ⟨hp, gn, dr, tk, os⟩ := s
    obtain ⟨hst, hr⟩ := h
    have h_sub := sub_enumerate
    have step : ∀ {A' : Around} {E : Value → Shared → Prop} {Q : Value → Shared → Prop}, Q (.ref hp.objs.size) ⟨hp.push o, gn, dr, tk, os⟩ → wpAny (model prog w) A' (pyIter v) Q E ⟨hp, gn, dr, tk, os⟩ :=
      fun q => B.iter prog w _ _ ⟨hp, gn, dr, tk, os⟩ _ hst q
    wp_walk using step
    refine wpAny_stack_any fun _ => wpAny_pure ?_
    split
    · rename_i c _ _ _ _ _
      cases (c == Value.type "enumerate") <;> (wp_walk using step; exact ⟨_, rfl, hr⟩)
    · wp_walk using step
      exact ⟨_, rfl, hr⟩
theorem enum_call1 {prog : Program} {w : World} {A : Around} {E : Value → Shared → Prop} {s : Shared} {v : Value} {o : Obj} {H : Heap → Prop} {Q : Value → Shared → Prop} (B : Begins v o H) (hst : H s.heap)
    (k : ∀ h', IsEnum h' (s.heap.objs.size + 1) s.heap.objs.size 0 .none → h'.get? s.heap.objs.size = some o → (∀ b ob, s.heap.get? b = some ob → h'.get? b = some ob) → Q (.ref (s.heap.objs.size + 1)) { s with heap := h' }) :
    wpAny (model prog w) A (call (.type "enumerate") [v]) Q E s := by
  refine callType_new F.called_enumerate (by decide) (F.typeCall_enumerate_1 _) (F.newCall_enumerate_1 _) (fun obj => F.args_object_init_2 obj _) F.entry_enumerate_new (enum_new1 B) ⟨hst, ?_⟩
  have size1 : (s.heap.push o).objs.size = s.heap.objs.size + 1 := Heap.size_push ..
  show _ ∧ _
  rw [size1]
  have there : IsEnum ((s.heap.push o).push { cls := .type "enumerate", data := .fields #[.none, .bool false, .ref s.heap.objs.size, rawInt 0, .none, .none] }) (s.heap.objs.size + 1) s.heap.objs.size 0 .none := by
    have got := Heap.get?_push_size (s.heap.push o) (o := { cls := .type "enumerate", data := .fields #[.none, .bool false, .ref s.heap.objs.size, rawInt 0, .none, .none] }) rfl
    rw [size1] at got
    exact got
  exact ⟨⟨_, there, rfl⟩, k _ there (Heap.get?_push_of_some _ (Heap.get?_push_size _ B.free)) fun b ob e => Heap.get?_push_of_some _ (Heap.get?_push_of_some _ e)⟩
end PySem

namespace DL
open PySem L2
/-- the tuple at a, each item in a new pair -/
def ItTe (K : PySem.W.Frag) (a : Addr) : It :=
  ⟨fun i H => ∃ (xs : List V) (x : V), SqT K H a xs ∧ xs[i]? = some x, fun i H v H' => ∃ T x, v = .ref T ∧ H T = none ∧ H' = upd H T (.tup [.int (i : Nat), x]) ∧ ∀ xs, SqT K H a xs → xs[i]? = some x, fun i H => ∃ xs : List V, SqT K H a xs ∧ xs.length = i⟩
theorem turn_enumT {P : Program} {w : World} {K : PySem.W.Frag} {elts : List Expr} {kk : Nat} {tpos : Pos} (a e it : Addr) :
    Turn P w K (.Tuple elts kk tpos) (ItTe K a) [e, it] e (fun i h => (∃ old, IsEnum h e it ((i : Nat) : Int) old) ∧ h.IsTupleIter it a i ∧ e ≠ it) where
  mem := by simp
  obj := fun i h st b hb => by
    obtain ⟨⟨old, he⟩, ⟨o, ho, hc, hd⟩, _⟩ := st
    have hb' : b = e ∨ b = it := by simpa using hb
    rcases hb' with rfl | rfl
    · exact ⟨_, he, fun v q => nomatch q⟩
    · exact ⟨o, ho, fun v q => by rw [hd] at q; cases q⟩
  keep := fun i h h' st k => let ⟨⟨old, he⟩, hi, hne⟩ := st; ⟨⟨old, k e (by simp) _ he⟩, hi.at fun o q => k it (by simp) o q, hne⟩
  item := by
    intro X hP hw hK hc i pins s σ H E I hf st hg
    subst hP hw hK
    obtain ⟨⟨old, he⟩, hit, hne⟩ := st
    obtain ⟨xs, x, hq, hx⟩ := hg
    obtain ⟨its, rv, p, hz⟩ := I.tuple hq
    obtain ⟨u, hu, ru⟩ := rv.get hx
    have p' : s.heap.IsTuple a its.toArray := p
    have hel : e < s.heap.objs.size := Heap.lt_size he
    have hil : it < s.heap.objs.size := by obtain ⟨_, q, _⟩ := hit; exact Heap.lt_size q
    have hea : e ≠ a := fun z => by
      obtain ⟨o, h1, h2, _⟩ := p'
      rw [← z, he] at h1
      cases h1
      simp at h2
    have hia : a ≠ it := fun z => by
      obtain ⟨o, h1, h2, _⟩ := p'
      obtain ⟨o', h3, h4, _⟩ := hit
      rw [z, h3] at h1
      cases h1
      rw [h4] at h2
      simp at h2
    have hlt : i < its.toArray.size := by
      have := lt_of_at hu
      simpa using this
    refine wpAny_pyNext_enum_itemD (Draws.tuple (A := X.A.in1) (I.ok.hd hc) it a hia its.toArray) he ⟨hit, p'⟩ hlt hne (by simp [hne, hea]) fun y h' tk hy ho hst hT hsz hk => ?_
    have ey : y = u := by
      have q1 : its[i]? = some y := by simpa using hy
      rw [hu] at q1
      exact (Option.some.inj q1).symm
    subst ey
    refine ⟨_, rfl, wpAny_letOwnedTupleGo_enum (s := { s with heap := h', toks := tk + 1 }) ho fun h'' he' sb => ?_⟩
    have hT2 : h''.get? s.heap.objs.size = some { cls := .type "tuple", data := .seq #[.int i tk, y] } := (sb.2 _ (Nat.ne_of_gt hel)).trans hT
    have new : ObjOk X.prog X.w (upd H s.heap.objs.size (.tup [.int (i : Nat), x])) h'' s.heap.objs.size (.tup [.int (i : Nat), x]) :=
      ⟨by show 2 ≤ sizeLine; decide, [.int i tk, y], .cons ⟨_, rfl⟩ (.cons ru .nil), ⟨_, hT2, rfl, _, rfl⟩⟩
    have I1 : Inv X pins σ (upd H s.heap.objs.size (.tup [.int (i : Nat), x])) { s with heap := h'', toks := tk + 1 } :=
      I.turnedNew (ch := [e, it]) (fun b ob hb q => (sb.2 b (fun z => hb (by simp [z]))).trans (hk b ob (fun z => hb (by simp [z])) (fun z => hb (by simp [z])) q)) hf (Nat.le_refl _) new
    refine ⟨.ref s.heap.objs.size, _, I1, rfl, ⟨_, x, rfl, I.hok.fresh (Nat.le_refl _), rfl, fun ys hy => by rw [I.tuple_inj hy hq]; exact hx⟩, ⟨⟨y, ?_⟩, hst.1.at fun o q => (sb.2 it (Ne.symm hne)).trans q, hne⟩, fun b hb => ?_⟩
    · have e1 : ((i + 1 : Nat) : Int) = (i : Int) + 1 := by omega
      rw [e1]; exact he'
    · have hb' : b < s.heap.objs.size := by
        have hb2 : b = e ∨ b = it := by simpa using hb
        rcases hb2 with rfl | rfl
        · exact hel
        · exact hil
      rw [upd_ne (Nat.ne_of_lt hb')]
      exact (hf b hb).1
  done := by
    intro X hP hw hK hc i pins s σ H E I hf st hg
    subst hP hw hK
    obtain ⟨⟨old, he⟩, hit, hne⟩ := st
    obtain ⟨xs, hq, hx⟩ := hg
    obtain ⟨its, rv, p, hz⟩ := I.tuple hq
    have p' : s.heap.IsTuple a its.toArray := p
    obtain ⟨f0, f1, f2, f3, f4, f5⟩ := hf it (by simp)
    have hl := rv.length
    have hia : a ≠ it := fun z => by
      obtain ⟨o, h1, h2, _⟩ := p'
      obtain ⟨o', h3, h4, _⟩ := hit
      rw [z, h3] at h1
      cases h1
      rw [h4] at h2
      simp at h2
    have hi : i = its.toArray.size := by rw [List.size_toArray]; omega
    exact wpAny_pyNext_enum_endD (Draws.tuple (A := X.A.in1) (I.ok.hd hc) it a hia its.toArray) he ⟨hi ▸ hit, p'⟩ fun h' eb => ⟨rfl, I.turned (t' := s.toks) (fun b o hb q => eb b o hb q) f0 f1 f3 f4 f5⟩
  self := fun A i s Q E st h => let ⟨⟨_, he⟩, _⟩ := st; wpAny_pyIter_enum he h
theorem walk_enumT {K : PySem.W.Frag} {a : Addr} {xs : List V} : Walk (ItTe K a) xs.length (fun H => SqT K H a xs) (YPair (fun i => some (.int (i : Nat))) (fun i => xs[i]?)) := by
  refine ⟨fun i _ hi q => ⟨xs, xs[i], q, by simp [hi]⟩, fun _ q => ⟨xs, q, rfl⟩, fun i H v H' _ q y => ?_⟩
  obtain ⟨T, x, h1, h2, h3, h4⟩ := y
  exact ⟨T, .int (i : Nat), x, h1, h2, h3, rfl, h4 xs q⟩
def enumM : List D → M (List D)
  | [.lst ds] => ret (enumD ds)
  | [.tup ds] => ret (enumD ds)
  | _ => fail
def iEn (l : CL) : CI := fun ρ => bnd (l ρ) enumM
theorem enum_pair {K : PySem.W.Frag} {F : Hp} {xs : List V} {ds : List D} (r : RepL K F xs ds) : ∀ i d, (enumD ds)[i]? = some d → ∃ a b, d = .tup [a, b] ∧ (∀ x, (fun i : Nat => some (V.int (i : Nat))) i = some x → Rep K F x a) ∧ ∀ x, (fun i : Nat => xs[i]?) i = some x → Rep K F x b := by
  intro i d e
  obtain ⟨a, b, rfl, h1, h2⟩ := pairs_at e
  refine ⟨a, b, rfl, fun x hx => ?_, fun x hx => ?_⟩
  · cases hx
    rw [upto_at h1]
    have : (0 : Int) + (i : Nat) * 1 = (i : Nat) := by omega
    rw [this]
    exact .int _
  · obtain ⟨v, q1, q2⟩ := r.get h2
    have hx : xs[i]? = some x := hx
    rw [q1] at hx
    cases hx
    exact q2
section
variable {X : Cx} {E : Xn → Prop} {e : Expr} {cl : CL} {p pos tpos : Pos} {elts : List Expr} {kk : Nat}
open PySem.Spec PyProof.Rows in
theorem ri_enum (hg : Gl X "enumerate") (hm : X.mg "enumerate" = none) (ha : PA X [e] (rdL X.K E 1 cl)) (hs : starEach [e] X.env = [(false, eval e X.env)]) : PI X (.Tuple elts kk tpos) (.Call (.Name "enumerate" p) [e] [] pos) (rdI X.K E (iEn cl)) := by
  refine ⟨fun pins s σ H R I ⟨B, F0, F, ρ, Q, re, h, k⟩ => ?_⟩
  refine Call_ (ld_blt I hg hm boot_enumerate (PyProof.Rows.callWith_type1 (thn (ha.run pos pins s σ H (fun vs H1 => ∃ F1 ds, Grow F H F1 H1 ∧ RepL X.K F1 vs ds ∧ vs.length = 1 ∧ enumM ds Q E) I
    ⟨B, F0, F, ρ, _, re, h, fun vs H1 F1 ds g1 r1 hn q => ⟨F1, ds, g1, r1, hn, q⟩⟩) ?_) hs rfl))
  rintro us s1 ⟨vs, H1, I1, r1, F1, ds, g1, rl, hn, q⟩
  obtain ⟨v, rfl⟩ := len1 hn
  obtain ⟨d, rfl, rp⟩ := rl.one
  obtain ⟨u, rfl, r⟩ := Vals.one r1
  have fin : ∀ (o : Obj) (J : It) (tn : Nat → Heap → Prop) (h' : Heap) (ds : List D), (∀ b ob, s1.heap.get? b = some ob → h'.get? b = some ob) → IsEnum h' (s1.heap.objs.size + 1) s1.heap.objs.size 0 .none →
      Turn X.prog X.w X.K (.Tuple elts kk tpos) J [s1.heap.objs.size + 1, s1.heap.objs.size] (s1.heap.objs.size + 1) tn → tn 0 h' → ItOk X.K F1 J ds → Q ds →
      wpAny (model X.prog X.w) X.A (pyIter (.ref (s1.heap.objs.size + 1))) (PIE X pins σ (.Tuple elts kk tpos) R) X.xe { s1 with heap := h' } := fun o J tn h' ds hk he T st io q => by
    refine wpAny_pyIter_enum he ?_
    have I2 : Inv X pins σ H1 { s1 with heap := h' } := I1.kept (t' := s1.toks) hk
    refine ⟨_, _, tn, J, H1, rfl, I2, T, st, fun b hb => ?_, k J H1 F1 ds g1 io q⟩
    have hb' : b = s1.heap.objs.size + 1 ∨ b = s1.heap.objs.size := by simpa using hb
    have hle : s1.heap.objs.size ≤ b := by
      rcases hb' with rfl | rfl
      · exact Nat.le_succ _
      · exact Nat.le_refl _
    exact I1.fpOk hle (I1.hok.fresh hle)
  cases rp with
  | @lst la lxs lds h1 rl2 =>
    cases r
    obtain ⟨its, rv, pp, hz⟩ := I1.list (SqL.of (g1.fh _ _ h1))
    refine enum_call1 (begins_list la its.toArray) pp.isList fun h' he ho hk => ?_
    exact fin { cls := .type "list_iterator", data := .fields #[.ref la, .int 0 0] } _ _ h' _ hk he (turn_enum la _ _) ⟨⟨.none, he⟩, ⟨_, ho, rfl, rfl⟩, Nat.succ_ne_self _⟩
      (ItOk.of_pair (G := fun H => SqL X.K H la lxs) (by rw [enumD_len, ← rl2.length]; exact walk_enum) (fun H s => sqL_same s h1) (enum_pair rl2)) q
  | @tup la lxs lds h1 rl2 =>
    cases r
    obtain ⟨its, rv, pp, hz⟩ := I1.tuple (sqT_same g1.fh h1)
    refine enum_call1 (begins_tuple la its.toArray) (show s1.heap.IsTuple la its.toArray from pp) fun h' he ho hk => ?_
    exact fin { cls := .type "tuple_iterator", data := .fields #[.ref la, .int 0 0] } _ _ h' _ hk he (turn_enumT la _ _) ⟨⟨.none, he⟩, ⟨_, ho, rfl, rfl⟩, Nat.succ_ne_self _⟩
      (ItOk.of_pair (G := fun H => SqT X.K H la lxs) (by rw [enumD_len, ← rl2.length]; exact walk_enumT) (fun H s => sqT_same s h1) (enum_pair rl2)) q
  | _ => exact (show False from q).elim
end
def iEnum : IR := fun r g tg e => match tg, e with
  | .Tuple _ _ _, .Call (.Name x _) [a] [] _ => if spB g x "enumerate" = true then (lOf r g [a]).map iEn else none
  | _, _ => none
theorem iEnum_ok : IrOk iEnum := by
  intro r R X g E tg e c ok h
  unfold iEnum at h
  split at h
  · split at h
    · rename_i hs
      obtain ⟨rfl, q1, q2⟩ := spB_is ok hs
      obtain ⟨l, h1, rfl⟩ := map_some h
      obtain ⟨h2, h3⟩ := lOf_ok (E := E) R ok h1
      rw [List.all_cons, Bool.and_eq_true] at h3
      exact ri_enum q1 q2 h2 (plain_star h3.1)
    · cases h
  · cases h
end DL

namespace DL
open PySem L2

/-! ### isinstance -/
inductive TyN where
  | non | bl | int | str | lst | tup | dct
  deriving DecidableEq
def TyN.s : TyN → String
  | .non => "NoneType"
  | .bl => "bool"
  | .int => "int"
  | .str => "str"
  | .lst => "list"
  | .tup => "tuple"
  | .dct => "dict"
def tyN : D → Option TyN
  | .non => some .non
  | .bl _ => some .bl
  | .int _ => some .int
  | .str _ => some .str
  | .lst _ => some .lst
  | .tup _ => some .tup
  | .dct _ => some .dct
  | _ => none
def clsN (T : String) : Option TyN := if T = "bool" then some .bl else if T = "int" then some .int else if T = "str" then some .str else if T = "list" then some .lst else if T = "tuple" then some .tup else if T = "dict" then some .dct else none
theorem clsN_is {T : String} {t : TyN} (h : clsN T = some t) : t.s = T := by
  unfold clsN at h
  split at h
  · cases h; subst T; rfl
  split at h
  · cases h; subst T; rfl
  split at h
  · cases h; subst T; rfl
  split at h
  · cases h; subst T; rfl
  split at h
  · cases h; subst T; rfl
  split at h
  · cases h; subst T; rfl
  cases h
def subN : TyN → TyN → Bool
  | .bl, .bl => true
  | .bl, .int => true
  | .int, .int => true
  | .str, .str => true
  | .lst, .lst => true
  | .tup, .tup => true
  | .dct, .dct => true
  | .non, .non => true
  | _, _ => false
theorem kit_sub (t T : TyN) : kitB t.s T.s = some (subN t T) := by cases t <;> cases T <;> decide +kernel
theorem kit_any {K : PySem.W.Frag} (t : TyN) : ∀ Ts : List TyN, PySem.W.kitAny K (.type t.s) (Ts.map fun T => .type T.s) = some (Ts.any (subN t))
  | [] => rfl
  | T :: Ts => by
    rw [List.map_cons, List.any_cons]
    refine kitAny_cons (kit_ty (kit_sub t T)) (fun e => ?_) fun e => ?_
    · rw [e, Bool.false_or]; exact kit_any t Ts
    · rw [e, Bool.true_or]
def isiM (Ts : List TyN) (d : D) : M (D × Bool) := match tyN d with
  | some t => ret (.bl (Ts.any (subN t)), false)
  | none => fail
def cIsi (a : CB) (Ts : List TyN) : CV := fun ρ => bnd (a ρ) (isiM Ts)
theorem tyX_of {K : PySem.W.Frag} {F H : Hp} {v : V} {d : D} {t : TyN} (s : Same F H) (b : Bor K F H v d) (h : tyN d = some t) : TyX K H v (.type t.s) := by
  cases d with
  | non => cases h; cases b.non; exact .base .non
  | bl x => cases h; cases b.bl; exact .base (.bl x)
  | int x => cases h; cases b.int; exact .base (.int x)
  | str x => cases h; cases b.str; exact .base (.str x)
  | lst ds => cases h; obtain ⟨a, vs, rfl, h, _⟩ := b.lst s; exact .base (.lst h)
  | tup ds =>
    cases h
    obtain ⟨a, vs, rfl, h, _⟩ := b.tup s
    rcases h with (h | ⟨o, h⟩) | ⟨o, its, n, h1, h2, _⟩
    · exact .base (.tup h)
    · exact .fTuple h
    · exact .kTuple h1 h2
  | dct kvs =>
    cases h
    rcases b with b | ⟨p, rfl, ks, h, r⟩
    · cases b with
      | dct h r => exact .base (.dK (s _ _ h))
    · exact .base (.dK h)
  | _ => cases h
def tyG (g : Sg) (x : Str) : Option TyN := if globB g x = true then match g.gl.lookup x with
  | some (.ty T _) => clsN T
  | _ => none else none
def tysG (g : Sg) : List Expr → Option (List TyN)
  | [] => some []
  | .Name x _ :: es => match tyG g x, tysG g es with
    | some t, some ts => some (t :: ts)
    | _, _ => none
  | _ :: _ => none
section
variable {X : Cx} {g : Sg} {E : Xn → Prop}
theorem tyG_ok (ok : SgOk X g) {x : Str} {t : TyN} {p : Pos} (h : tyG g x = some t) : PE X (.Name x p) (tC (.ty t.s)) := by
  unfold tyG at h
  split at h
  · rename_i hg
    obtain ⟨q1, q2⟩ := globB_is ok hg
    split at h
    · rename_i T m hl
      obtain ⟨hm, hv, hn, _⟩ := ok.gl _ _ hl
      rw [clsN_is h]
      exact pe_bltn q1 hm hv rfl hn q2
    · cases h
  · cases h
theorem tysG_ok (ok : SgOk X g) : ∀ {es : List Expr} {ts : List TyN}, tysG g es = some ts → PA X es (fun σ H Q => Q (ts.map fun t => V.ty t.s) H)
  | [], _, h => by cases h; exact pa_nil
  | .Name x p :: es, _, h => by
    unfold tysG at h
    split at h
    · rename_i t ts h1 h2
      cases h
      exact (pa_cons (tyG_ok ok h1) (tysG_ok ok h2) rfl).imp fun σ H Q q => q
    · cases h
theorem cls_pair : ∀ ts : List TyN, Paired ClsV (ts.map fun t => V.ty t.s) (ts.map fun t => Value.type t.s)
  | [] => .nil
  | t :: ts => .cons (.ty _) (cls_pair ts)
theorem re_isi {a : Expr} {xa : CB} {x : Str} {p p2 pos : Pos} {t : TyN} (ok : SgOk X g) (hg : Gl X "isinstance") (hm : X.mg "isinstance" = none) (ha : PE X a (rdB X.K E xa)) (hpl : plainE a = true) (ht : tyG g x = some t) :
    PE X (.Call (.Name "isinstance" p) [a, .Name x p2] [] pos) (rdV X.K E (cIsi xa [t])) :=
  (pe_callB call_isi hg hm PyProof.Rows.boot_isinstance (pa_cons ha (pa_cons (tyG_ok ok ht) pa_nil rfl) (plain_star hpl)) (by decide) (by decide) (plain_star hpl) rfl).imp fun σ H Q' ⟨B, F0, F, ρ, Q, re, h, k⟩ => by
    refine ⟨B, F0, F, ρ, _, re, h, fun v H1 F1 d g1 b1 q => ?_⟩
    cases hs : tyN d with
    | some s =>
      have q : Q (.bl ([t].any (subN s)), false) := by
        have q0 : isiM [t] d Q E := q
        unfold isiM at q0
        rw [hs] at q0
        exact q0
      refine ⟨v, .ty t.s, .type s.s, .type t.s, subN s t, rfl, .ty _, tyX_of g1.fh b1 hs, kit_ty (kit_sub s t), ?_⟩
      have q' : Q (.bl (subN s t || false), false) := q
      rw [Bool.or_false] at q'
      exact k _ H1 F1 (.bl (subN s t), false) g1 (Val.of (.bl _)) q'
    | none =>
      have q0 : isiM [t] d Q E := q
      unfold isiM at q0
      rw [hs] at q0
      exact (show False from q0).elim
theorem re_isiT {a : Expr} {xa : CB} {es : List Expr} {j : Nat} {p p2 pos : Pos} {ts : List TyN} (ok : SgOk X g) (hg : Gl X "isinstance") (hm : X.mg "isinstance" = none) (ha : PE X a (rdB X.K E xa)) (hpl : plainE a = true) (ht : tysG g es = some ts) (hl : ts.length ≤ 10) :
    PE X (.Call (.Name "isinstance" p) [a, .Tuple es j p2] [] pos) (rdV X.K E (cIsi xa ts)) :=
  (pe_callB call_isiT hg hm PyProof.Rows.boot_isinstance (pa_cons ha (pa_cons (pe_tup (tysG_ok ok ht)) pa_nil rfl) (plain_star hpl)) (by decide) (by decide) (plain_star hpl) rfl).imp fun σ H Q' ⟨B, F0, F, ρ, Q, re, h, k⟩ => by
    refine ⟨B, F0, F, ρ, _, re, h, fun v H1 F1 d g1 b1 q => ⟨?_, fun T hT => ?_⟩⟩
    · rw [List.length_map]; exact Nat.le_trans hl (by decide)
    · cases hs : tyN d with
      | some s =>
        have q : Q (.bl (ts.any (subN s)), false) := by
          have q0 : isiM ts d Q E := q
          unfold isiM at q0
          rw [hs] at q0
          exact q0
        have g2 := Grow.own g1.fh hT (.tup (ts.map fun t => V.ty t.s))
        refine ⟨v, T, _, .type s.s, _, _, rfl, upd_same, cls_pair ts, tyX_of g2.fh (b1.grow g2) hs, kit_any s ts, ?_⟩
        exact k _ _ F1 (.bl _, false) (g1.trans g2) (Val.of (.bl _)) q
      | none =>
        have q0 : isiM ts d Q E := q
        unfold isiM at q0
        rw [hs] at q0
        exact (show False from q0).elim
end
def vIsi : VR := fun r g e => match e with
  | .Call (.Name x _) [a, .Name y _] [] _ => if (spB g x "isinstance" && plainE a) = true then match bOf r g a, tyG g y with
    | some c, some t => some (cIsi c [t])
    | _, _ => none else none
  | .Call (.Name x _) [a, .Tuple es _ _] [] _ => if (spB g x "isinstance" && plainE a) = true then match bOf r g a, tysG g es with
    | some c, some ts => if ts.length ≤ 10 then some (cIsi c ts) else none
    | _, _ => none else none
  | _ => none
theorem vIsi_ok : VrOk vIsi := by
  intro r R X g E e c ok h
  unfold vIsi at h
  split at h
  · split at h
    · rename_i hs
      rw [Bool.and_eq_true] at hs
      obtain ⟨rfl, q1, q2⟩ := spB_is ok hs.1
      split at h
      · cases h; exact re_isi ok q1 q2 (bOf_ok R ok ‹_›) hs.2 ‹_›
      · cases h
    · cases h
  · split at h
    · rename_i hs
      rw [Bool.and_eq_true] at hs
      obtain ⟨rfl, q1, q2⟩ := spB_is ok hs.1
      split at h
      · split at h
        · cases h; exact re_isiT ok q1 q2 (bOf_ok R ok ‹_›) hs.2 ‹_› ‹_›
        · cases h
      · cases h
    · cases h
  · cases h

/-! ### list(range(..)), tuple(range(..)) -/
def rgsM : List D → M (Int × Int)
  | [.int j] => fun Q _ => RgOk 0 j ∧ Q (0, j)
  | [.int i, .int j] => fun Q _ => RgOk i j ∧ Q (i, j)
  | _ => fail
def cLRg (tp : Bool) (l : CL) : CV := fun ρ => bnd (l ρ) fun ds => bnd (rgsM ds) fun ij => ret (if tp = true then .tup (upto ij.1 1 (ij.2 - ij.1).toNat) else .lst (upto ij.1 1 (ij.2 - ij.1).toNat), !tp)
theorem rgV_rep {K : PySem.W.Frag} {F : Hp} (i j : Int) : RepL K F (rgV i j) (upto i 1 (j - i).toNat) := by
  unfold rgV upto
  induction (List.range (j - i).toNat) with
  | nil => exact .nil
  | cons n ns ih =>
    rw [List.map_cons, List.map_cons, Int.mul_one]
    exact .cons (.int _) ih
section
variable {X : Cx} {E : Xn → Prop} {a b : Expr} {p p2 pos pos2 : Pos} {xa xb : CB}
theorem rg_end {K : PySem.W.Frag} {F H F1 H1 : Hp} {Q : D × Bool → Prop} {Q' : VK} (k : ∀ v H' F' r, Grow F H F' H' → Val K F' H' H v r → Q r → Q' v H') (g1 : Grow F H F1 H1) (i j : Int) (q : Q (.lst (upto i 1 (j - i).toNat), true)) :
    ∀ z, H1 z = none → Q' (.ref z) (upd H1 z (.lst (rgV i j))) := fun z hz => new_own g1.fh (rgV_rep i j) q (fun v F' H' r g' v' q' => k v H' F' r (g1.trans g') (v'.back g1) q') z hz
theorem rg_endT {K : PySem.W.Frag} {F H F1 H1 : Hp} {Q : D × Bool → Prop} {Q' : VK} (k : ∀ v H' F' r, Grow F H F' H' → Val K F' H' H v r → Q r → Q' v H') (g1 : Grow F H F1 H1) (i j : Int) (q : Q (.tup (upto i 1 (j - i).toNat), false)) :
    ∀ z, H1 z = none → Q' (.ref z) (upd H1 z (.tup (rgV i j))) := fun z hz => new_tup g1.fh (rgV_rep i j) q (fun v F' H' r g' v' q' => k v H' F' r (g1.trans g') (v'.back g1) q') z hz
theorem re_lrg1 (hc : X.calm = true) (hg : Gl X "list") (hm : X.mg "list" = none) (hg2 : Gl X "range") (hm2 : X.mg "range" = none) (ha : PE X a (rdF X.K E xa)) (hpl : plainE a = true) :
    PE X (.Call (.Name "list" p) [.Call (.Name "range" p2) [a] [] pos2] [] pos) (rdV X.K E (cLRg false (cCons xa cNil))) :=
  (pe_listRg hc hg hm (prg_1 hg2 hm2 ha (plain_star hpl)) rfl).imp fun σ H Q' ⟨B, F0, F, ρ, Q, re, h, k⟩ => ⟨B, F0, F, ρ, _, re, h, fun v H1 F1 d g1 r1 q => by
    cases r1 with
    | int j => exact ⟨j, rfl, q.1, rg_end k g1 0 j q.2⟩
    | _ => exact (show False from q).elim⟩
theorem re_lrg2 (hc : X.calm = true) (hg : Gl X "list") (hm : X.mg "list" = none) (hg2 : Gl X "range") (hm2 : X.mg "range" = none) (ha : PE X a (rdF X.K E xa)) (hb : PE X b (rdF X.K E xb)) (hpl : plainE a = true) (hplb : plainE b = true) :
    PE X (.Call (.Name "list" p) [.Call (.Name "range" p2) [a, b] [] pos2] [] pos) (rdV X.K E (cLRg false (cCons xa (cCons xb cNil)))) :=
  (pe_listRg hc hg hm (prg_2 hg2 hm2 ha hb (plain_star hpl) (plain_star hplb) (plains_pl (es := [b]) (by rw [List.all_cons, hplb]; rfl))) rfl).imp fun σ H Q' ⟨B, F0, F, ρ, Q, re, h, k⟩ => ⟨B, F0, F, ρ, _, re, h, fun v H1 F1 d g1 r1 q =>
    ⟨B, F0, F1, ρ, _, re.grow g1, q, fun w H2 F2 d2 g2 r2 q => by
      cases r1 with
      | int i => cases r2 with
        | int j => exact ⟨i, j, rfl, rfl, q.1, rg_end k (g1.trans g2) i j q.2⟩
        | _ => exact (show False from q).elim
      | _ => exact (show False from q).elim⟩⟩
theorem re_trg1 (hc : X.calm = true) (hg : Gl X "tuple") (hm : X.mg "tuple" = none) (hg2 : Gl X "range") (hm2 : X.mg "range" = none) (ha : PE X a (rdF X.K E xa)) (hpl : plainE a = true) :
    PE X (.Call (.Name "tuple" p) [.Call (.Name "range" p2) [a] [] pos2] [] pos) (rdV X.K E (cLRg true (cCons xa cNil))) :=
  (pe_tupRg hc hg hm (prg_1 hg2 hm2 ha (plain_star hpl)) rfl).imp fun σ H Q' ⟨B, F0, F, ρ, Q, re, h, k⟩ => ⟨B, F0, F, ρ, _, re, h, fun v H1 F1 d g1 r1 q => by
    cases r1 with
    | int j => exact ⟨j, rfl, q.1, rg_endT k g1 0 j q.2⟩
    | _ => exact (show False from q).elim⟩
end
def tyB (g : Sg) (x y : Str) (T : String) : Bool := decide (x = y) && globB g x && (match g.gl.lookup x with | some (.ty T' _) => decide (T' = T) | _ => false)
theorem tyB_is {X : Cx} {g : Sg} (ok : SgOk X g) {x y : Str} {T : String} (h : tyB g x y T = true) : x = y ∧ Gl X y ∧ X.mg y = none := by
  unfold tyB at h
  rw [Bool.and_eq_true, Bool.and_eq_true] at h
  obtain ⟨⟨h1, h2⟩, h3⟩ := h
  have h1 := of_decide_eq_true h1
  subst h1
  refine ⟨rfl, (globB_is ok h2).1, ?_⟩
  split at h3
  · rename_i hl; exact (ok.gl _ _ hl).1
  · cases h3
def vLRg : VR := fun r g e => match e with
  | .Call (.Name x _) [.Call (.Name y _) [a] [] _] [] _ => if spB g y "range" && plainE a then
      if tyB g x "list" "list" = true then (fOf r g a).map fun c => cLRg false (cCons c cNil)
      else if tyB g x "tuple" "tuple" = true then (fOf r g a).map fun c => cLRg true (cCons c cNil) else none
    else none
  | .Call (.Name x _) [.Call (.Name y _) [a, b] [] _] [] _ => if spB g y "range" && tyB g x "list" "list" && plainE a && plainE b then match fOf r g a, fOf r g b with
    | some c, some d => some (cLRg false (cCons c (cCons d cNil)))
    | _, _ => none else none
  | _ => none
theorem vLRg_ok : VrOk vLRg := by
  intro r R X g E e c ok h
  unfold vLRg at h
  split at h
  · split at h
    · rename_i hs
      rw [Bool.and_eq_true] at hs
      obtain ⟨rfl, q1, q2⟩ := spB_is ok hs.1
      split at h
      · rename_i ht
        obtain ⟨rfl, q3, q4⟩ := tyB_is ok ht
        obtain ⟨d, h1, rfl⟩ := map_some h
        exact re_lrg1 ok.calm q3 q4 q1 q2 (fOf_ok R ok h1) hs.2
      · split at h
        · rename_i ht
          obtain ⟨rfl, q3, q4⟩ := tyB_is ok ht
          obtain ⟨d, h1, rfl⟩ := map_some h
          exact re_trg1 ok.calm q3 q4 q1 q2 (fOf_ok R ok h1) hs.2
        · cases h
    · cases h
  · split at h
    · rename_i hs
      rw [Bool.and_eq_true, Bool.and_eq_true, Bool.and_eq_true] at hs
      obtain ⟨⟨⟨hs1, hs2⟩, hs3⟩, hs4⟩ := hs
      obtain ⟨rfl, q1, q2⟩ := spB_is ok hs1
      obtain ⟨rfl, q3, q4⟩ := tyB_is ok hs2
      split at h
      · cases h
        exact re_lrg2 ok.calm q3 q4 q1 q2 (fOf_ok R ok ‹_›) (fOf_ok R ok ‹_›) hs3 hs4
      · cases h
    · cases h
  · cases h
end DL

namespace DL
open PySem L2 PySem.W

/-! ### the least, the greatest, of data -/
def bestM (f : PyData → List PyData → PyData) (ds : List D) : M (D × Bool) := fun Q _ => match pyL ds with
  | some (p :: ps) => (AlikeAll (p :: ps) ∧ PyData.depthAll (p :: ps) ≤ 50 ∧ PyData.canLayAll0 (p :: ps) = true) ∧ ∀ d, d ∈ ds → d.py = some (f p ps) → Q (d, false)
  | _ => False
theorem pyL_at : ∀ {ds : List D} {ps : List PyData} {i : Nat} {d : D}, pyL ds = some ps → ds[i]? = some d → ∃ p, d.py = some p ∧ ps[i]? = some p
  | [], _, _, _, _, e => by simp at e
  | d :: ds, ps, i, z, h, e => by
    simp only [pyL] at h
    cases q : D.py d with
    | none => rw [q] at h; simp at h
    | some p =>
      cases q2 : pyL ds with
      | none => rw [q, q2] at h; simp at h
      | some ps' =>
        rw [q, q2] at h
        simp only [Option.some.injEq] at h
        subst h
        cases i with
        | zero => simp at e; subst e; exact ⟨p, q, rfl⟩
        | succ i => obtain ⟨p2, h1, h2⟩ := pyL_at (i := i) (d := z) q2 (by simpa using e); exact ⟨p2, h1, by simpa using h2⟩
theorem best_item {X : Cx} {pins : List (Addr × Obj)} {σ : L2.St} {F H : Hp} {s : Shared} {vs : List V} {ds : List D} {ps : List PyData} {its : List Value} {i : Nat} {u : Value} {h' : Heap} {tk : Nat} {bs : List Addr} {p : PyData} {Q : D × Bool → Prop} {Q' : VK}
    (I : Inv X pins σ H s) (sm : Same F H) (rv : Vals vs its) (r : RepL X.K F vs ds) (e : pyL ds = some ps) (lay : PyData.canLayAll0 ps = true) (hu : its[i]? = some u) (rd : Reads h' u p bs) (hk : ∀ b o, s.heap.get? b = some o → h'.get? b = some o)
    (q : ∀ d, d ∈ ds → d.py = some p → Q (d, false)) (k : ∀ v F' H' r, Grow F H F' H' → Val X.K F' H' H v r → Q r → Q' v H') : EP X pins σ Q' u { s with heap := h', toks := tk } := by
  have hi : i < vs.length := by rw [rv.length]; exact lt_of_at hu
  obtain ⟨u', hu', ru⟩ := rv.get (List.getElem?_eq_getElem hi)
  rw [hu] at hu'
  cases hu'
  obtain ⟨d, hd, rp⟩ := r.getV (List.getElem?_eq_getElem hi)
  obtain ⟨p', hp, hps⟩ := pyL_at e hd
  have I1 : Inv X pins σ H { s with heap := h', toks := tk } := I.kept hk
  obtain ⟨as, rd2⟩ := Dp.reads I1 p' _ _ ((rp.mono sm).dp hp) ru
  have lay' : ∀ {ps : List PyData} {i : Nat}, PyData.canLayAll0 ps = true → ps[i]? = some p' → p'.canLay0 = true := by
    intro ps
    induction ps with
    | nil => intro i _ h; simp at h
    | cons a r ih =>
      intro i h1 h2
      rw [PyData.canLayAll0, Bool.and_eq_true] at h1
      cases i with
      | zero => simp at h2; subst h2; exact h1.1
      | succ i => exact ih h1.2 (by simpa using h2)
  have ep := SeqAt.Reads.unique _ _ _ _ _ (lay' lay hps) rd2 rd
  subst ep
  exact ⟨_, H, I1, ru, k _ F H (d, false) (Grow.refl sm) (Val.of rp) (q d (List.mem_of_getElem? hd) hp)⟩
theorem foldl_top : ∀ (l : List Int) (a : Int), topI a l = l.foldl max a
  | [], _ => rfl
  | b :: r, a => by
    unfold topI
    rw [List.foldl_cons, foldl_top r]
    have : (if a < b then b else a) = max a b := by
      split <;> omega
    rw [this]
theorem foldl_low : ∀ (l : List Int) (a : Int), lowI a l = l.foldl min a
  | [], _ => rfl
  | b :: r, a => by
    unfold lowI
    rw [List.foldl_cons, foldl_low r]
    have : (if b < a then b else a) = min a b := by
      split <;> omega
    rw [this]
theorem pyL_ints : ∀ {ds : List D} {ns : List Int}, intsD ds = some ns → pyL ds = some (ns.map PyData.int) ∧ ds = ns.map D.int
  | [], _, h => by cases h; exact ⟨rfl, rfl⟩
  | .int i :: ds, ns, h => by
    simp only [intsD] at h
    cases q : intsD ds with
    | none => rw [q] at h; cases h
    | some ms =>
      rw [q] at h
      simp only [Option.map_some, Option.some.injEq] at h
      subst h
      obtain ⟨h1, h2⟩ := pyL_ints q
      exact ⟨by simp only [pyL, D.py, h1, List.map_cons], by rw [List.map_cons, ← h2]⟩
  | .non :: _, _, h | .bl _ :: _, _, h | .str _ :: _, _, h | .lst _ :: _, _, h | .tup _ :: _, _, h | .dct _ :: _, _, h | .obj _ _ :: _, _, h | .raw _ :: _, _, h | .gen :: _, _, h | .scr _ :: _, _, h => by simp [intsD] at h
theorem alike_ints (ns : List Int) : AlikeAll (ns.map PyData.int) := by
  refine ⟨fun x hx y hy => ?_, fun x hx => ?_⟩
  · obtain ⟨i, _, rfl⟩ := List.mem_map.mp hx
    obtain ⟨j, _, rfl⟩ := List.mem_map.mp hy
    rfl
  · obtain ⟨i, _, rfl⟩ := List.mem_map.mp hx
    intro z; cases z
theorem depth_ints : ∀ ns : List Int, PyData.depthAll (ns.map PyData.int) ≤ 1
  | [] => by simp [PyData.depthAll]
  | n :: ns => by
    have := depth_ints ns
    simp only [List.map_cons, PyData.depthAll, PyData.depth]
    omega
theorem lay_ints : ∀ ns : List Int, PyData.canLayAll0 (ns.map PyData.int) = true
  | [] => rfl
  | n :: ns => by simp only [List.map_cons, PyData.canLayAll0, PyData.canLay0, lay_ints ns]; rfl
/-- a non-empty list's greatest (least): of ints by their order, else by the order of data -/
def bestI (gt : Bool) (ds : List D) : M (D × Bool) := fun Q E => match intsD ds with
  | some (a :: r) => Q (.int (if gt = true then topI a r else lowI a r), false)
  | some [] => False
  | none => bestM (if gt = true then maxD else minD) ds Q E
theorem bestI_M {gt : Bool} {ds : List D} {Q : D × Bool → Prop} {E : Xn → Prop} (h : bestI gt ds Q E) : bestM (if gt = true then maxD else minD) ds Q E := by
  unfold bestI at h
  split at h
  · rename_i a r e
    obtain ⟨h1, h2⟩ := pyL_ints e
    unfold bestM
    rw [h1, List.map_cons]
    refine ⟨⟨alike_ints (a :: r), Nat.le_trans (depth_ints (a :: r)) (by decide), lay_ints (a :: r)⟩, fun d hd hp => ?_⟩
    subst h2
    obtain ⟨i, _, rfl⟩ := List.mem_map.mp hd
    have hp : some (PyData.int i) = some ((if gt = true then maxD else minD) (.int a) (r.map PyData.int)) := hp
    cases gt with
    | true =>
      rw [if_pos rfl] at h hp
      rw [maxD_ints, ← foldl_top] at hp
      cases hp
      exact h
    | false =>
      rw [if_neg Bool.false_ne_true] at h hp
      rw [minD_ints, ← foldl_low] at hp
      cases hp
      exact h
  · exact h.elim
  · exact h
def bestsM (gt : Bool) : List D → M (D × Bool)
  | [.lst ds] => bestI gt ds
  | [.tup ds] => bestI gt ds
  | [.int i, .int j] => ret (.int (if gt = true then (if j > i then j else i) else (if j < i then j else i)), false)
  | _ => fail
def bestDM (gt : Bool) (d0 : D) : List D → M (D × Bool)
  | [.lst []] => ret (d0, false)
  | [.tup []] => ret (d0, false)
  | [.lst (d :: ds)] => bestI gt (d :: ds)
  | [.tup (d :: ds)] => bestI gt (d :: ds)
  | _ => fail
section
variable {X : Cx}
theorem bestM_some {f : PyData → List PyData → PyData} {ds : List D} {Q : D × Bool → Prop} {E : Xn → Prop} (h : bestM f ds Q E) : ∃ p ps, pyL ds = some (p :: ps) ∧ (AlikeAll (p :: ps) ∧ PyData.depthAll (p :: ps) ≤ 50 ∧ PyData.canLayAll0 (p :: ps) = true) ∧ ∀ d, d ∈ ds → d.py = some (f p ps) → Q (d, false) := by
  unfold bestM at h
  split at h
  · exact ⟨_, _, by assumption, h⟩
  · exact h.elim
theorem b_max2 (hu : X.A.units + 110 < cLine) (hc : X.calm = true) : CallR X (.builtin "max") (rcM X.K (bestsM true)) := by
  intro pins s σ H xs us Q I r h
  obtain ⟨F, ds, Q2, E, sm, b, h, k⟩ := h
  unfold bestsM at h
  split at h
  · obtain ⟨v, rfl, b1⟩ := b.one
    obtain ⟨a, vs, rfl, ha, ra⟩ := b1.lst sm
    obtain ⟨p, ps, e, ⟨al, dp, lay⟩, q⟩ := bestM_some (bestI_M h)
    obtain ⟨its, rv, pl, hz⟩ := I.list (SqL.of ha)
    obtain ⟨as, rd⟩ := Dp.readsAll I _ _ _ ((ra.mono sm).dp e) rv
    obtain ⟨u, rfl, ru⟩ := Vals.one r
    cases ru
    exact max_list_data (I.ok.hd hc) pl.isList (by simpa using rd) al (by omega) fun i v h' tk bs hv hr hk => best_item I sm rv ra e lay (by simpa using hv) hr hk q k
  · obtain ⟨v, rfl, b1⟩ := b.one
    obtain ⟨a, vs, rfl, ha, ra⟩ := b1.tup sm
    obtain ⟨p, ps, e, ⟨al, dp, lay⟩, q⟩ := bestM_some (bestI_M h)
    obtain ⟨its, rv, pl, hz⟩ := I.tuple ha
    obtain ⟨as, rd⟩ := Dp.readsAll I _ _ _ ((ra.mono sm).dp e) rv
    obtain ⟨u, rfl, ru⟩ := Vals.one r
    cases ru
    exact max_tuple_data (I.ok.hd hc) (show s.heap.IsTuple a its.toArray from pl) (by simpa using rd) al (by omega) fun i v h' tk bs hv hr hk => best_item I sm rv ra e lay (by simpa using hv) hr hk q k
  · obtain ⟨v, u, rfl, b1, b2⟩ := b.two
    cases b1.int; cases b2.int
    exact call_max2 hc pins s σ H _ us Q I r ⟨_, _, rfl, k _ F H _ (Grow.refl sm) (Val.of (.int _)) h⟩
  · exact h.elim
theorem b_min2 (hu : X.A.units + 110 < cLine) (hc : X.calm = true) : CallR X (.builtin "min") (rcM X.K (bestsM false)) := by
  intro pins s σ H xs us Q I r h
  obtain ⟨F, ds, Q2, E, sm, b, h, k⟩ := h
  unfold bestsM at h
  split at h
  · obtain ⟨v, rfl, b1⟩ := b.one
    obtain ⟨a, vs, rfl, ha, ra⟩ := b1.lst sm
    obtain ⟨p, ps, e, ⟨al, dp, lay⟩, q⟩ := bestM_some (bestI_M h)
    obtain ⟨its, rv, pl, hz⟩ := I.list (SqL.of ha)
    obtain ⟨as, rd⟩ := Dp.readsAll I _ _ _ ((ra.mono sm).dp e) rv
    obtain ⟨u, rfl, ru⟩ := Vals.one r
    cases ru
    exact min_list_data (I.ok.hd hc) pl.isList (by simpa using rd) al (by omega) fun i v h' tk bs hv hr hk => best_item I sm rv ra e lay (by simpa using hv) hr hk q k
  · obtain ⟨v, rfl, b1⟩ := b.one
    obtain ⟨a, vs, rfl, ha, ra⟩ := b1.tup sm
    obtain ⟨p, ps, e, ⟨al, dp, lay⟩, q⟩ := bestM_some (bestI_M h)
    obtain ⟨its, rv, pl, hz⟩ := I.tuple ha
    obtain ⟨as, rd⟩ := Dp.readsAll I _ _ _ ((ra.mono sm).dp e) rv
    obtain ⟨u, rfl, ru⟩ := Vals.one r
    cases ru
    exact min_tuple_data (I.ok.hd hc) (show s.heap.IsTuple a its.toArray from pl) (by simpa using rd) al (by omega) fun i v h' tk bs hv hr hk => best_item I sm rv ra e lay (by simpa using hv) hr hk q k
  · obtain ⟨v, u, rfl, b1, b2⟩ := b.two
    cases b1.int; cases b2.int
    exact call_min2 hc pins s σ H _ us Q I r ⟨_, _, rfl, k _ F H _ (Grow.refl sm) (Val.of (.int _)) h⟩
  · exact h.elim
/-- max(x, default = d), min(..) -/
def rBD (K : PySem.W.Frag) (gt : Bool) : List V → List V → Hp → VK → Prop := fun vs zs H Q => ∃ F ds d0 Q2 E, Same F H ∧ BorL K F H vs ds ∧ RepL K F zs [d0] ∧ bestDM gt d0 ds Q2 E ∧ ∀ v F' H' r, Grow F H F' H' → Val K F' H' H v r → Q2 r → Q v H'
theorem ck_max (hu : X.A.units + 110 < cLine) (hc : X.calm = true) : CallRK X (.builtin "max") ["default"] (rBD X.K true) := by
  intro pins s σ H xs zs us ws Q I r rz h
  obtain ⟨F, ds, d0, Q2, E, sm, b, rd0, h, k⟩ := h
  obtain ⟨z, rfl⟩ : ∃ z, zs = [z] := len1 rd0.length
  obtain ⟨_, e0, rz0⟩ := rd0.one
  cases e0
  obtain ⟨w, rfl, rw1⟩ := Vals.one rz
  have dflt : Q2 (d0, false) → ∀ h' tk, (∀ b o, s.heap.get? b = some o → h'.get? b = some o) → EP X pins σ Q w { s with heap := h', toks := tk } := fun q h' tk hk => ⟨z, H, I.kept hk, rw1, k z F H (d0, false) (Grow.refl sm) (Val.of rz0) q⟩
  unfold bestDM at h
  split at h
  · obtain ⟨v, rfl, b1⟩ := b.one
    obtain ⟨a, vs, rfl, ha, ra⟩ := b1.lst sm
    cases ra
    obtain ⟨its, rv, pl, hz⟩ := I.list (SqL.of ha)
    cases rv
    obtain ⟨u, rfl, ru⟩ := Vals.one r
    cases ru
    exact max_list_default (xs := []) (I.ok.hd hc) pl.isList .nil (alike_ints []) (by simp only [PyData.depthAll]; omega) (fun _ => dflt h) fun y ys i v h' tk bs e => by cases e
  · obtain ⟨v, rfl, b1⟩ := b.one
    obtain ⟨a, vs, rfl, ha, ra⟩ := b1.tup sm
    cases ra
    obtain ⟨its, rv, pl, hz⟩ := I.tuple ha
    cases rv
    obtain ⟨u, rfl, ru⟩ := Vals.one r
    cases ru
    exact max_tuple_default (xs := []) (I.ok.hd hc) (show s.heap.IsTuple a #[] from pl) .nil (alike_ints []) (by simp only [PyData.depthAll]; omega) (fun _ => dflt h) fun y ys i v h' tk bs e => by cases e
  · obtain ⟨v, rfl, b1⟩ := b.one
    obtain ⟨a, vs, rfl, ha, ra⟩ := b1.lst sm
    obtain ⟨p, ps, e, ⟨al, dp, lay⟩, q⟩ := bestM_some (bestI_M h)
    obtain ⟨its, rv, pl, hz⟩ := I.list (SqL.of ha)
    obtain ⟨as, rd⟩ := Dp.readsAll I _ _ _ ((ra.mono sm).dp e) rv
    obtain ⟨u, rfl, ru⟩ := Vals.one r
    cases ru
    exact max_list_default (I.ok.hd hc) pl.isList (by simpa using rd) al (by omega) (fun e => by cases e) fun y ys i v h' tk bs e2 hv hr hk => by cases e2; exact best_item I sm rv ra e lay (by simpa using hv) hr hk q k
  · obtain ⟨v, rfl, b1⟩ := b.one
    obtain ⟨a, vs, rfl, ha, ra⟩ := b1.tup sm
    obtain ⟨p, ps, e, ⟨al, dp, lay⟩, q⟩ := bestM_some (bestI_M h)
    obtain ⟨its, rv, pl, hz⟩ := I.tuple ha
    obtain ⟨as, rd⟩ := Dp.readsAll I _ _ _ ((ra.mono sm).dp e) rv
    obtain ⟨u, rfl, ru⟩ := Vals.one r
    cases ru
    exact max_tuple_default (I.ok.hd hc) (show s.heap.IsTuple a its.toArray from pl) (by simpa using rd) al (by omega) (fun e => by cases e) fun y ys i v h' tk bs e2 hv hr hk => by cases e2; exact best_item I sm rv ra e lay (by simpa using hv) hr hk q k
  · exact h.elim
theorem ck_min (hu : X.A.units + 110 < cLine) (hc : X.calm = true) : CallRK X (.builtin "min") ["default"] (rBD X.K false) := by
  intro pins s σ H xs zs us ws Q I r rz h
  obtain ⟨F, ds, d0, Q2, E, sm, b, rd0, h, k⟩ := h
  obtain ⟨z, rfl⟩ : ∃ z, zs = [z] := len1 rd0.length
  obtain ⟨_, e0, rz0⟩ := rd0.one
  cases e0
  obtain ⟨w, rfl, rw1⟩ := Vals.one rz
  have dflt : Q2 (d0, false) → ∀ h' tk, (∀ b o, s.heap.get? b = some o → h'.get? b = some o) → EP X pins σ Q w { s with heap := h', toks := tk } := fun q h' tk hk => ⟨z, H, I.kept hk, rw1, k z F H (d0, false) (Grow.refl sm) (Val.of rz0) q⟩
  unfold bestDM at h
  split at h
  · obtain ⟨v, rfl, b1⟩ := b.one
    obtain ⟨a, vs, rfl, ha, ra⟩ := b1.lst sm
    cases ra
    obtain ⟨its, rv, pl, hz⟩ := I.list (SqL.of ha)
    cases rv
    obtain ⟨u, rfl, ru⟩ := Vals.one r
    cases ru
    exact min_list_default (xs := []) (I.ok.hd hc) pl.isList .nil (alike_ints []) (by simp only [PyData.depthAll]; omega) (fun _ => dflt h) fun y ys i v h' tk bs e => by cases e
  · obtain ⟨v, rfl, b1⟩ := b.one
    obtain ⟨a, vs, rfl, ha, ra⟩ := b1.tup sm
    cases ra
    obtain ⟨its, rv, pl, hz⟩ := I.tuple ha
    cases rv
    obtain ⟨u, rfl, ru⟩ := Vals.one r
    cases ru
    exact min_tuple_default (xs := []) (I.ok.hd hc) (show s.heap.IsTuple a #[] from pl) .nil (alike_ints []) (by simp only [PyData.depthAll]; omega) (fun _ => dflt h) fun y ys i v h' tk bs e => by cases e
  · obtain ⟨v, rfl, b1⟩ := b.one
    obtain ⟨a, vs, rfl, ha, ra⟩ := b1.lst sm
    obtain ⟨p, ps, e, ⟨al, dp, lay⟩, q⟩ := bestM_some (bestI_M h)
    obtain ⟨its, rv, pl, hz⟩ := I.list (SqL.of ha)
    obtain ⟨as, rd⟩ := Dp.readsAll I _ _ _ ((ra.mono sm).dp e) rv
    obtain ⟨u, rfl, ru⟩ := Vals.one r
    cases ru
    exact min_list_default (I.ok.hd hc) pl.isList (by simpa using rd) al (by omega) (fun e => by cases e) fun y ys i v h' tk bs e2 hv hr hk => by cases e2; exact best_item I sm rv ra e lay (by simpa using hv) hr hk q k
  · obtain ⟨v, rfl, b1⟩ := b.one
    obtain ⟨a, vs, rfl, ha, ra⟩ := b1.tup sm
    obtain ⟨p, ps, e, ⟨al, dp, lay⟩, q⟩ := bestM_some (bestI_M h)
    obtain ⟨its, rv, pl, hz⟩ := I.tuple ha
    obtain ⟨as, rd⟩ := Dp.readsAll I _ _ _ ((ra.mono sm).dp e) rv
    obtain ⟨u, rfl, ru⟩ := Vals.one r
    cases ru
    exact min_tuple_default (I.ok.hd hc) (show s.heap.IsTuple a its.toArray from pl) (by simpa using rd) al (by omega) (fun e => by cases e) fun y ys i v h' tk bs e2 hv hr hk => by cases e2; exact best_item I sm rv ra e lay (by simpa using hv) hr hk q k
  · exact h.elim
def cBest (gt : Bool) (l : CL) (dc : CB) : CV := fun ρ => bnd (l ρ) fun ds => bnd (dc ρ) fun d0 => bestDM gt d0 ds
theorem bd_imp {E : Xn → Prop} {gt : Bool} {cl : CL} {dc : CB} {σ : L2.St} {H : Hp} {Q' : VK} (h : rdV X.K E (cBest gt cl dc) σ H Q') : tCKw (rBD X.K gt) (rdM X.K E cl) (tCons (rdF X.K E dc) tNil) σ H Q' := by
  obtain ⟨B, F0, F, ρ, Q, re, h, k⟩ := h
  exact ⟨B, F0, F, ρ, _, re, h, fun vs H1 F1 ds g1 b1 q => ⟨B, F0, F1, ρ, _, re.grow g1, q, fun z H2 F2 d0 g2 r2 q2 =>
    ⟨F2, ds, d0, Q, E, g2.fh, b1.grow g2, .cons r2 .nil, q2, fun v F' H' r g' v' q' => k v H' F' r ((g1.trans g2).trans g') (v'.back (g1.trans g2)) q'⟩⟩⟩
end
def vBest : VR := fun r g e => match e with
  | .Call (.Name x _) [a] [⟨some kn, d, _⟩] _ => if kn = ("default" : Str) ∧ plainE a = true ∧ globB g x = true then match g.gl.lookup x with
    | some (.bi id _) => if id = "max" then match mOf r g [a], fOf r g d with
        | some l, some c => some (cBest true l c)
        | _, _ => none
      else if id = "min" then match mOf r g [a], fOf r g d with
        | some l, some c => some (cBest false l c)
        | _, _ => none
      else none
    | _ => none else none
  | _ => none
theorem vBest_ok : VrOk vBest := by
  intro r R X g E e c ok h
  unfold vBest at h
  split at h
  · split at h
    · rename_i hs
      obtain ⟨rfl, hp, hg⟩ := hs
      obtain ⟨q1, q2⟩ := globB_is ok hg
      split at h
      · rename_i id m hl
        obtain ⟨hm, hv, hn, _⟩ := ok.gl _ _ hl
        split at h
        · rename_i hid
          subst hid
          split at h
          · rename_i h1 h2
            cases h
            exact (pe_callBK (ck_max ok.un ok.calm) q1 hm hv (mOf_ok R ok h1).1 (pk_cons (fOf_ok R ok h2) pk_nil) hn q2 (by rw [plain_star hp]; rfl) (by rw [plain_star hp]; rfl)).imp fun σ H Q' h => bd_imp h
          · cases h
        · split at h
          · rename_i hid
            subst hid
            split at h
            · rename_i h1 h2
              cases h
              exact (pe_callBK (ck_min ok.un ok.calm) q1 hm hv (mOf_ok R ok h1).1 (pk_cons (fOf_ok R ok h2) pk_nil) hn q2 (by rw [plain_star hp]; rfl) (by rw [plain_star hp]; rfl)).imp fun σ H Q' h => bd_imp h
            · cases h
          · cases h
      · cases h
    · cases h
  · cases h

/-! ### dict(pairs) -/
def keyD : D → Option Key
  | .int i => some (.inl i)
  | .str x => some (.inr x)
  | _ => none
def kvsD : List D → Option (List (Key × D))
  | [] => some []
  | .tup [k, v] :: r => match keyD k, kvsD r with
    | some k, some l => some ((k, v) :: l)
    | _, _ => none
  | _ :: _ => none
def putG (kvs : List (Key × D)) (k : Key) (v : D) : List (Key × D) :=
  if (kvs.any fun kv => decide (kv.1 = k)) = true then kvs.map (fun kv => if kv.1 = k then (kv.1, v) else kv) else kvs ++ [(k, v)]
def mergeG (kvs more : List (Key × D)) : List (Key × D) := more.foldl (fun acc kv => putG acc kv.1 kv.2) kvs
def unK (l : List (Key × D)) : List (D × D) := l.map fun p => (kD p.1, p.2)
inductive RepP (K : PySem.W.Frag) (H : Hp) : List (Key × V) → List (Key × D) → Prop
  | nil : RepP K H [] []
  | cons {k : Key} {v : V} {d : D} {ks : List (Key × V)} {ds : List (Key × D)} : Rep K H v d → RepP K H ks ds → RepP K H ((k, v) :: ks) ((k, d) :: ds)
section
variable {K : PySem.W.Frag} {H : Hp}
theorem RepP.rep : ∀ {ks : List (Key × V)} {ds : List (Key × D)}, RepP K H ks ds → RepK K H ks (unK ds)
  | _, _, .nil => .nil
  | _, _, .cons r t => .cons r (RepP.rep t)
theorem RepP.any {k : Key} : ∀ {ks : List (Key × V)} {ds : List (Key × D)}, RepP K H ks ds → (ks.any fun kv => decide (kv.1 = k)) = ds.any fun kv => decide (kv.1 = k)
  | _, _, .nil => rfl
  | _, _, .cons r t => by rw [List.any_cons, List.any_cons, RepP.any t]
theorem RepP.map {k : Key} {v : V} {d : D} (q : Rep K H v d) : ∀ {ks : List (Key × V)} {ds : List (Key × D)}, RepP K H ks ds → RepP K H (ks.map fun kv => if kv.1 = k then (kv.1, v) else kv) (ds.map fun kv => if kv.1 = k then (kv.1, d) else kv)
  | _, _, .nil => .nil
  | _, _, .cons (k := k') r t => by
    rw [List.map_cons, List.map_cons]
    by_cases e : k' = k
    · rw [if_pos e, if_pos e]; exact .cons q (RepP.map q t)
    · rw [if_neg e, if_neg e]; exact .cons r (RepP.map q t)
theorem RepP.app {k : Key} {v : V} {d : D} (q : Rep K H v d) : ∀ {ks : List (Key × V)} {ds : List (Key × D)}, RepP K H ks ds → RepP K H (ks ++ [(k, v)]) (ds ++ [(k, d)])
  | _, _, .nil => .cons q .nil
  | _, _, .cons r t => .cons r (RepP.app q t)
theorem RepP.put {k : Key} {v : V} {d : D} (q : Rep K H v d) {ks : List (Key × V)} {ds : List (Key × D)} (r : RepP K H ks ds) : RepP K H (putK ks k v) (putG ds k d) := by
  unfold putK putG
  rw [r.any]
  split
  · exact r.map q
  · exact r.app q
theorem RepP.merge : ∀ {ms : List (Key × V)} {md : List (Key × D)} {ks : List (Key × V)} {ds : List (Key × D)}, RepP K H ms md → RepP K H ks ds → RepP K H (mergeK ks ms) (mergeG ds md)
  | _, _, _, _, .nil, r => r
  | (k, v) :: ms, (_, d) :: md, ks, ds, .cons q t, r => (show RepP K H (mergeK (putK ks k v) ms) (mergeG (putG ds k d) md) from RepP.merge t (r.put q))
theorem key_is {k : D} {y : Key} {v : V} (r : Rep K H v k) (h : keyD k = some y) : v = kV y := by
  cases k <;> cases h
  all_goals (cases r; rfl)
theorem kvs_is : ∀ {ds : List D} {vs : List V} {kvs : List (Key × D)}, RepL K H vs ds → kvsD ds = some kvs → ∃ (ps : List Addr) (ks : List (Key × V)), vs = ps.map V.ref ∧ Paired (fun p kv => SqT K H p [kV kv.1, kv.2]) ps ks ∧ RepP K H ks kvs
  | [], _, _, .nil, h => by cases h; exact ⟨[], [], rfl, .nil, .nil⟩
  | d :: ds, v :: vs, kvs, .cons r t, h => by
    unfold kvsD at h
    split at h
    · cases ‹_ :: _ = []›
    · rename_i k x rest he
      cases he
      split at h
      · rename_i y l hk hl
        cases h
        obtain ⟨ps, ks, rfl, h2, h3⟩ := kvs_is t hl
        cases r with
        | tup h1 rr =>
          rename_i a ws
          cases rr with
          | cons rk rr =>
            cases rr with
            | cons rv rr =>
              cases rr
              have ek := key_is rk hk
              subst ek
              exact ⟨_ :: ps, (y, _) :: ks, rfl, .cons h1 h2, .cons rv h3⟩
      · cases h
    · cases h
end
theorem paired_imp {α β : Type} {R S : α → β → Prop} (h : ∀ a b, R a b → S a b) : ∀ {as : List α} {bs : List β}, Paired R as bs → Paired S as bs
  | _, _, .nil => .nil
  | _, _, .cons r t => .cons (h _ _ r) (paired_imp h t)
def dictM : List D → M (D × Bool)
  | [.lst ds] => fun Q _ => match kvsD ds with
    | some kvs => Q (.dct (unK (mergeG [] kvs)), true)
    | none => False
  | _ => fail
theorem b_dict {X : Cx} (hc : X.calm = true) : CallR X (.type "dict") (rcM X.K dictM) := by
  intro pins s σ H xs us Q I r h
  obtain ⟨F, ds, Q2, E, sm, b, h, k⟩ := h
  unfold dictM at h
  split at h
  · obtain ⟨v, rfl, b1⟩ := b.one
    obtain ⟨a, vs, rfl, ha, ra⟩ := b1.lst sm
    split at h
    · rename_i kvs e
      obtain ⟨ps, ks, rfl, h2, h3⟩ := kvs_is ra e
      refine call_dictP hc pins s σ H _ us Q I r ⟨a, ps, ks, rfl, SqL.of ha, ?_, fun p hp => ?_⟩
      · exact paired_imp (fun p kv q => sqT_same sm q) h2
      · refine k _ F _ _ (Grow.own sm hp _) (Val.own (d := .dct (unK (mergeG [] kvs))) hp (sm.free hp) ?_) h
        exact ⟨_, upd_same, (RepP.merge h3 .nil).rep⟩
    · exact h.elim
  · exact h.elim
end DL

namespace DL
open PySem L2

/-! ### the state told otherwise -/
def Rlx (X : Cx) (H H' : Hp) : Prop := ∀ (pins : List (Addr × Obj)) (σ : L2.St) (s : Shared), Inv X pins σ H s → Inv X pins σ H' s
theorem pss_post {X : Cx} {st : List Stmt} {t : TS} (h : PSs X st t) : PSs X st (fun D σ H => t { D with rt := fun v H' => ∃ H'', Rlx X H' H'' ∧ D.rt v H'' } σ H) := by
  refine ⟨fun pins s σ H D I hw => thn (h.run pins s σ H _ I hw) fun fl s' q => ?_⟩
  cases fl with
  | next => exact q
  | brk => exact q
  | cont => exact q
  | ret u => obtain ⟨v, σ', H', I', r, H'', q1, q2⟩ := q; exact ⟨v, σ', H'', q1 _ _ _ I', r, q2⟩
structure GenV (i m : Int) (cells : List Int) : Prop where
  i0 : 0 ≤ i
  m0 : 0 ≤ m
  m1 : m < 2147483647
  ne : cells ≠ []
  pos : ∀ x ∈ cells, 0 ≤ x
  len : cells.length ≤ 63
theorem vals3 {a b c : V} {us : List Value} (r : Vals [a, b, c] us) : ∃ x y z, us = [x, y, z] ∧ RelV a x ∧ RelV b y ∧ RelV c z := by
  cases r with | cons r1 r => cases r with | cons r2 r => cases r with | cons r3 r => cases r; exact ⟨_, _, _, rfl, r1, r2, r3⟩
theorem rlx_close {X : Cx} {H : Hp} {g c : Addr} {i m : Int} {cells : List Int} (hg : H g = some (.lst [.ref c, .int i, .int m])) (hc : H c = some (.lst (cells.map V.int))) (ne : g ≠ c) (v : GenV i m cells) :
    Rlx X H (upd (upd H g (.ext (genO g c))) c (.ext (cellsO c))) := by
  intro pins σ s I
  have og := I.hok g _ hg
  obtain ⟨_, its, n, rv, e⟩ := og
  obtain ⟨x, y, z, rfl, r1, r2, r3⟩ := vals3 rv
  cases r1
  obtain ⟨t, rfl⟩ := r2
  obtain ⟨u, rfl⟩ := r3
  have I1 : Inv X pins σ (upd H g (.ext (genO g c))) s := I.write (x := g) (e := g) (o := .ext (genO g c)) (t' := s.toks) (h' := s.heap) (by rw [hg]; trivial) (.inl rfl) (fun b u _ q => q) ⟨_, e⟩
    ⟨⟨i, m, t, u, n, v.i0, v.m0, v.m1, e⟩, ⟨_, e⟩, fun h1 h2 ⟨i, m, t, u, n, a, b, d, e⟩ k => ⟨i, m, t, u, n, a, b, d, k _ e⟩⟩
  have hc1 : (upd H g (.ext (genO g c))) c = some (.lst (cells.map V.int)) := by rw [upd_ne (Ne.symm ne)]; exact hc
  obtain ⟨_, its, n, rv, e⟩ := I1.hok c _ hc1
  exact I1.write (x := c) (e := c) (o := .ext (cellsO c)) (t' := s.toks) (h' := s.heap) (by rw [hc1]; trivial) (.inl rfl) (fun b u _ q => q) ⟨_, e⟩
    ⟨⟨its, n, cells, rv.ints, v.ne, v.pos, v.len, e⟩, ⟨_, e⟩, fun h1 h2 ⟨i, n, ns, a, b, d, f, e⟩ k => ⟨i, n, ns, a, b, d, f, k _ e⟩⟩
def opened (H : Hp) (g c : Addr) (i m : Int) (cells : List Int) : Hp := upd (upd H g (.lst [.ref c, .int i, .int m])) c (.lst (cells.map V.int))
theorem open_inv {X : Cx} {H : Hp} {g c : Addr} {pins : List (Addr × Obj)} {σ : L2.St} {s : Shared} (ga : GenAt H g c) (I : Inv X pins σ H s) : ∃ i m cells, GenV i m cells ∧ Inv X pins σ (opened H g c i m cells) s := by
  obtain ⟨hg, hc, ne⟩ := ga
  obtain ⟨⟨i, m, t, u, n, i0, m0, m1, e⟩, _⟩ := I.hok g _ hg
  obtain ⟨⟨its, n2, ns, ia, n0, np, nl, e2⟩, _⟩ := I.hok c _ hc
  refine ⟨i, m, ns, ⟨i0, m0, m1, n0, np, nl⟩, ?_⟩
  have I1 : Inv X pins σ (upd H g (.lst [.ref c, .int i, .int m])) s := I.write (x := g) (e := g) (o := .lst [.ref c, .int i, .int m]) (t' := s.toks) (h' := s.heap) (by rw [hg]; trivial) (.inl rfl) (fun b u _ q => q) ⟨_, e⟩
    ⟨by show 3 ≤ sizeLine; decide, [.ref c, .int i t, .int m u], n, .cons rfl (.cons ⟨_, rfl⟩ (.cons ⟨_, rfl⟩ .nil)), e⟩
  have hc1 : (upd H g (.lst [.ref c, .int i, .int m])) c = some (.ext (cellsO c)) := by rw [upd_ne (Ne.symm ne)]; exact hc
  exact I1.write (x := c) (e := c) (o := .lst (ns.map V.int)) (t' := s.toks) (h' := s.heap) (by rw [hc1]; trivial) (.inl rfl) (fun b u _ q => q) ⟨_, e2⟩
    ⟨by rw [List.length_map]; exact Nat.le_trans nl (by decide), its, n2, vals_ints ia, e2⟩
theorem pss_open {X : Cx} {st : List Stmt} {t : TS} (h : PSs X st t) : PSs X st (fun D σ H => ∃ g c, GenAt H g c ∧ ∀ i m cells, GenV i m cells → t D σ (opened H g c i m cells)) :=
  ⟨fun pins s σ H D I ⟨g, c, ga, hw⟩ => by
    obtain ⟨i, m, cells, v, I1⟩ := open_inv ga I
    exact h.run pins s σ _ D I1 (hw i m cells v)⟩
/-- a slot under a name that the text does not know -/
theorem Inv.ghost {X : Cx} {pins : List (Addr × Obj)} {σ : L2.St} {H : Hp} {s : Shared} {i : Nat} {o : Option V} (I : Inv X pins σ H s) (hi : ∀ x, X.N[i]? = some x → ¬ Vis X.env.scope x) : Inv X pins (σ.set i o) H s := by
  refine ⟨I.ok, I.os, I.bare, I.base, ?_, I.cell, I.free, I.freeC, I.pin, I.hok, by rw [List.length_set]; exact I.len⟩
  obtain ⟨m, hn, hl⟩ := I.loc
  refine ⟨m, hn, fun j x v e1 e2 e3 => ?_⟩
  by_cases hj : j = i
  · subst hj; exact absurd e3 (hi x e1)
  · rw [List.getElem?_set_ne (Ne.symm hj)] at e2; exact hl j x v e1 e2 e3
theorem pss_ghost {X : Cx} {st : List Stmt} {t : TS} {i : Nat} (hi : ∀ x, X.N[i]? = some x → ¬ Vis X.env.scope x) (h : PSs X st t) : PSs X st (fun D σ H => ∃ o, t D (σ.set i o) H) :=
  ⟨fun pins s σ H D I ⟨o, hw⟩ => h.run pins s _ H D (Inv.ghost I hi) hw⟩
/-- a name for what another slot holds -/
def sAdopt (i j : Nat) (c : CS) : CS := fun ρ W E => match ρ[i]?, ρ[j]? with
  | some (.sh (.raw (.ref p))), some (.ow d (some q)) => p = q ∧ i ≠ j ∧ c ((ρ.set j .no).set i (.ow d (some q))) W E
  | _, _ => False
section
variable {X : Cx} {E : Xn → Prop} {ss : List Stmt} {c : CS}
theorem rss_adopt {i j : Nat} (h : PSs X ss (rdS X.K E c)) : PSs X ss (rdS X.K E (sAdopt i j c)) := h.imp fun Dn σ H ⟨B, F0, F, ρ, W, re, h, l⟩ => by
  unfold sAdopt at h
  split at h
  · rename_i p d q ei ej
    obtain ⟨rfl, hij, h⟩ := h
    refine ⟨B, F0, F, _, W, ?_, h, l⟩
    obtain ⟨v, h1, x, rfl, rx⟩ := re.cell i _ ei
    cases rx
    obtain ⟨v, h2, p', rfl, hB, hF, hO, hz⟩ := re.cell j _ ej
    have ep := hz p rfl
    subst ep
    have r1 := re.forget j
    have hi : i < ρ.length := lt_of_at ei
    have r2 := r1.put i (o := some (.ref p')) (c := .ow d (some p')) ⟨p', rfl, hB, hF, hO, fun q z => by cases z; rfl⟩ fun d2 z2 p2 e1 e2 k e y hk ek es => by
      cases e1; cases e2
      rcases set_at ek with ⟨_, _, z⟩ | ⟨hkj, ek2⟩
      · cases z
      · exact re.dis k j e d y (some p') p' hkj ek2 ej es h2
    have es : σ.set i (some (.ref p')) = σ := by
      apply List.ext_getElem?
      intro k
      by_cases hk : i = k
      · subst hk
        rw [List.getElem?_set_self (by rw [re.len]; exact hi), h1]
      · rw [List.getElem?_set_ne hk]
    rw [es] at r2
    exact r2
  · exact h.elim
end

def begunM : List D → M D
  | [.scr _] => fun Q _ => Q .gen
  | _ => fail
def drawM : List D → M D
  | [.gen, .int n] => fun Q _ => (0 < n ∧ n < 2 ^ 30) ∧ ∀ k, 0 ≤ k → k < n → Q (.int k)
  | _ => fail
def BegunC (c : CS) (N : List Str) : Prop := ∀ (ns : List Int) (rt : D → Env → Prop) (E : Xn → Prop), (∀ (cells : List Int) ρ, GenV 0 1 cells → rt (.lst [.lst (cells.map .int), .int 0, .int 1]) ρ) → c (startE N [.scr ns]) { nx := fun _ => False, rt := rt } E
def DrawC (c : CS) : Prop := ∀ (g cc : Addr) (i m : Int) (cells : List Int) (n : Int) (rt : D → Env → Prop) (E : Xn → Prop), GenV i m cells → 0 < n → n < 2 ^ 30 →
  (∀ (k i' m' : Int) (cells' : List Int) (ρ : Env), 0 ≤ k → k < n → GenV i' m' cells' → ρ[0]? = some (.ow (.lst [.raw (.ref cc), .int i', .int m']) (some g)) → ρ[2]? = some (.ow (.lst (cells'.map .int)) (some cc)) → rt (.int k) ρ) →
  c [.ow (.lst [.raw (.ref cc), .int i, .int m]) (some g), .sh (.int n), .no, .no, .no, .ow (.lst (cells.map .int)) (some cc)] { nx := fun _ => False, rt := rt } E
section
variable {P : Program} {w : World} {K : PySem.W.Frag} {mg : Str → Option Value} {base : Heap} {k : Nat} {gl : List (Str × GV)}
theorem rep_ints {F : Hp} : ∀ {vs : List V} {ns : List Int}, RepL K F vs (ns.map D.int) → vs = ns.map V.int
  | [], [], _ => rfl
  | _, n :: ns, .cons r t => by cases r; rw [rep_ints t]; rfl
  | _ :: _, [], r => by cases r
theorem draw_ok {R : Rules} (O : RulesOk R) {n : Nat} {x qual : Str} {st : Stmt} {f : Addr} {fd : FuncData} {N : List Str} {a b : Str} {c1 c2 : CS} (F : Fun K x qual st f fd) (S : FnScope N [a, b] (defScope st)) (hN : N.length = 6)
    (gh : ∀ x, N[5]? = some x → (defScope st).names.lookup x = none) (hg : GlB P w K mg base k gl) (hl : 2 ≤ (defBody st).length)
    (h1 : ssOf (recN R n) (mkSg N (defScope st) gl [0, 2]) ((defBody st).take 1) = some c1) (h2 : ssOf (recN R n) (mkSg N (defScope st) gl [0, 2]) ((defBody st).drop 1) = some c2) (hm : DrawC (sSeq c1 (sAdopt 2 5 c2))) :
    FnG P w K mg base CX0 (k + 1) f fd [a, b] (SpM K 2 drawM) := by
  refine Fun.okG F S (fun vs H Q E h => h.1) (fun cdv A outer s H vs Q E hr gd h => ?_)
  obtain ⟨hn, F0, ds, QD, ED, sm, r, hq, kq⟩ := h
  obtain ⟨v0, v1, rfl⟩ := len2 hn
  obtain ⟨d0, d1, rfl, r0, r1⟩ := r.two
  have sg : SgOk (cxOf CX0 P w K mg base N qual (defScope st) f cdv A outer s H E) (mkSg N (defScope st) gl [0, 2]) := cx_ok (n := n) S hg hr gd
  cases r0 with
  | @gen g c ga =>
    cases r1 with
    | int nn =>
      obtain ⟨⟨hn0, hn1⟩, hk⟩ := hq
      cases hb : defBody st with
      | nil => rw [hb] at hl; exact absurd hl (by decide)
      | cons s1 rest =>
        rw [hb] at h1 h2
        have p1 := ssOf_ok (E := ED) (recN_ok O n) sg PassesOwn.leaving h1
        have p2 := ssOf_ok (E := ED) (recN_ok O n) sg PassesOwn.leaving h2
        have p1' : PS (cxOf CX0 P w K mg base N qual (defScope st) f cdv A outer s H E) s1 (rdS K ED c1) := (recN_ok O n).s sg PassesOwn.leaving h1
        have whole := rss_cons p1' (rss_adopt (i := 2) (j := 5) p2)
        refine ⟨_, pss_open (pss_ghost (i := 5) (fun x hx hv => ?_) (pss_post whole)), g, c, ⟨sm _ _ ga.1, sm _ _ ga.2.1, ga.2.2⟩, fun i m cells v => ⟨some (.ref c), ?_⟩⟩
        · have z := gh x hx
          have hv : Vis (defScope st) x := hv
          unfold Vis at hv
          rw [z] at hv
          rcases hv with q | q | q <;> cases q
        · have hgc := ga.2.2
          let B : Hp := fun b => if b = g ∨ b = c then none else H b
          have Bg : B g = none := if_pos (.inl rfl)
          have Bc : B c = none := if_pos (.inr rfl)
          have Bo : ∀ b u, B b = some u → b ≠ g ∧ b ≠ c ∧ H b = some u := fun b u e => by
            by_cases hbb : b = g ∨ b = c
            · rw [show B b = none from if_pos hbb] at e; cases e
            · rw [show B b = H b from if_neg hbb] at e; rw [not_or] at hbb; exact ⟨hbb.1, hbb.2, e⟩
          have og : (opened H g c i m cells) g = some (.lst [.ref c, .int i, .int m]) := by unfold opened; rw [upd_ne hgc, upd_same]
          have oc : (opened H g c i m cells) c = some (.lst (cells.map V.int)) := by unfold opened; rw [upd_same]
          have es : (L2.start N [V.ref g, V.int nn]).set 5 (some (.ref c)) = [some (.ref g), some (.int nn), none, none, none, some (.ref c)] := by
            unfold L2.start
            rw [hN]
            rfl
          rw [es]
          refine ⟨B, fun _ => none, fun _ => none, _, { nx := fun _ => False, rt := fun d ρ => ∃ (k i' m' : Int) (cells' : List Int), d = .int k ∧ 0 ≤ k ∧ k < nn ∧ GenV i' m' cells' ∧ ρ[0]? = some (.ow (.lst [.raw (.ref c), .int i', .int m']) (some g)) ∧ ρ[2]? = some (.ow (.lst (cells'.map .int)) (some c)) }, ?_,
            hm g c i m cells nn _ ED v hn0 hn1 fun k i' m' cells' ρ a b d e f => ⟨k, i', m', cells', rfl, a, b, d, e, f⟩, ?_⟩
          · refine ⟨fun b u e => ?_, Same.refl _, fun b u e => (by cases e), fun b u e => (by cases e), rfl, fun i' c' e => ?_, fun i1 i2 d e z y p hne e1 e2 e3 e4 => ?_⟩
            · obtain ⟨q1, q2, q3⟩ := Bo b u e
              unfold opened
              rw [upd_ne q2, upd_ne q1]; exact q3
            · match i', e with
              | 0, e => cases e; exact ⟨_, rfl, g, rfl, Bg, rfl, ⟨_, og, .cons (.raw _) (.cons (.int _) (.cons (.int _) .nil))⟩, fun q z => by cases z; rfl⟩
              | 1, e => cases e; exact ⟨_, rfl, _, rfl, .int nn⟩
              | 2, e => cases e; exact ⟨_, rfl, trivial⟩
              | 3, e => cases e; exact ⟨_, rfl, trivial⟩
              | 4, e => cases e; exact ⟨_, rfl, trivial⟩
              | 5, e => cases e; exact ⟨_, rfl, c, rfl, Bc, rfl, ⟨_, oc, repL_intsD _⟩, fun q z => by cases z; rfl⟩
              | n + 6, e => cases e
            · match i1, e1, e3 with
              | 0, e1, e3 =>
                cases e3
                match i2, e2, e4 with
                | 0, e2, e4 => exact hne rfl
                | 5, e2, e4 => cases e4; exact hgc rfl
              | 5, e1, e3 =>
                cases e3
                match i2, e2, e4 with
                | 0, e2, e4 => cases e4; exact hgc rfl
                | 5, e2, e4 => exact hne rfl
          · refine ⟨fun σ' H' F' ρ' re q => (show False from q).elim, fun v' σ' H' F' ρ' d re rp q => ?_, fun σ' H' F' ρ' re q => (show False from q).elim, fun σ' H' F' ρ' re q => (show False from q).elim, fun _ _ _ _ _ _ _ _ _ _ q => (show False from q).elim⟩
            obtain ⟨k', i', m', cells', rfl, k0, k1, gv, e0, e2⟩ := q
            obtain ⟨_, _, p0, rfl, _, _, ⟨vs0, q0, l0⟩, z0⟩ := re.cell 0 _ e0
            obtain ⟨_, _, p2, rfl, _, _, ⟨vs2, q2, l2⟩, z2⟩ := re.cell 2 _ e2
            have := z0 g rfl
            subst this
            have := z2 c rfl
            subst this
            have l2' := rep_ints l2
            subst l2'
            obtain ⟨x1, x2, x3, rfl, y1, y2, y3⟩ : ∃ x1 x2 x3, vs0 = [x1, x2, x3] ∧ Rep K F' x1 (.raw (.ref p2)) ∧ Rep K F' x2 (.int i') ∧ Rep K F' x3 (.int m') := by
              cases l0 with | cons a t => cases t with | cons b t => cases t with | cons d t => cases t; exact ⟨_, _, _, rfl, a, b, d⟩
            cases y1; cases y2; cases y3
            cases rp
            refine ⟨_, rlx_close q0 q2 hgc gv, kq _ _ F0 (.int k') ⟨fun b u e => ?_, Same.refl F0, fun b u e => ?_, fun _ _ e => .inl e⟩ (Val.of (.int k')) (hk k' k0 k1)⟩
            all_goals
              have eH : H b = some u := by first | exact e | exact sm _ _ e
              by_cases h1 : b = p2
              · subst h1
                rw [upd_same, ← eH]
                exact (sm _ _ ga.2.1).symm
              · rw [upd_ne h1]
                by_cases h2 : b = p0
                · subst h2
                  rw [upd_same, ← eH]
                  exact (sm _ _ ga.1).symm
                · rw [upd_ne h2]
                  refine re.bh b u ?_
                  show (if b = p0 ∨ b = p2 then none else H b) = some u
                  rw [if_neg (by rw [not_or]; exact ⟨h2, h1⟩)]
                  exact eH
    | _ => exact (show False from hq).elim
  | _ => exact (show False from hq).elim
end
end DL

namespace DL
open PySem L2

section
variable {P : Program} {w : World} {K : PySem.W.Frag} {mg : Str → Option Value} {base : Heap} {k : Nat} {gl : List (Str × GV)}
theorem begun_ok {R : Rules} (O : RulesOk R) {n : Nat} {x qual : Str} {st : Stmt} {f : Addr} {fd : FuncData} {N : List Str} {a : Str} {c : CS} (F : Fun K x qual st f fd) (S : FnScope N [a] (defScope st)) (hg : GlB P w K mg base k gl)
    (he : ssOf (recN R n) (mkSg N (defScope st) gl []) (defBody st) = some c) (hm : BegunC c N) : FnG P w K mg base CX0 (k + 1) f fd [a] (SpM K 1 begunM) := by
  refine Fun.okG F S (fun vs H Q E h => h.1) (fun cdv A outer s H vs Q E hr gd h => ?_)
  obtain ⟨hn, F0, ds, QD, ED, sm, r, hq, kq⟩ := h
  obtain ⟨v0, rfl⟩ := len1 hn
  obtain ⟨d0, rfl, r0⟩ := r.one
  cases r0 with
  | @scr a ns sa =>
    have hq : QD .gen := hq
    let F1 : Hp := fun b => match F0 b with | some (.frz o u) => some (.frz o u) | _ => none
    have f1 : ∀ b u, F1 b = some u → F0 b = some u ∧ ∃ o y, u = .frz o y := fun b u e => by
      have e : (match F0 b with | some (.frz o u) => some (HO.frz o u) | _ => none) = some u := e
      split at e
      · rename_i o y q; cases e; exact ⟨q, o, y, rfl⟩
      · cases e
    have s1 : Same F1 H := fun b u e => sm _ _ (f1 b u e).1
    have sa1 : ScrAt K F1 a (ns.map V.int) := by
      rcases sa with ⟨o, h⟩ | h
      · refine .inl ⟨o, ?_⟩
        show (match F0 a with | some (.frz o u) => some (HO.frz o u) | _ => none) = _
        rw [h]
      · exact .inr h
    refine ⟨_, pss_post (ssOf_ok (E := ED) (recN_ok O n) (cx_ok (n := n) S hg hr gd) PassesOwn.leaving he), H, F1, F1, startE N [.scr ns],
      { nx := fun _ => False, rt := fun d _ => ∃ cells : List Int, d = .lst [.lst (cells.map .int), .int 0, .int 1] ∧ GenV 0 1 cells }, start_env s1 (.cons (.scr sa1) .nil), hm ns _ ED fun cells ρ v => ⟨cells, rfl, v⟩, ?_⟩
    refine ⟨fun σ' H' F' ρ' re q => (show False from q).elim, fun v' σ' H' F' ρ' d re rp q => ?_, fun σ' H' F' ρ' re q => (show False from q).elim, fun σ' H' F' ρ' re q => (show False from q).elim, fun _ _ _ _ _ _ _ _ _ _ q => (show False from q).elim⟩
    obtain ⟨cells, rfl, gv⟩ := q
    cases rp with
    | @lst g vs _ hg l =>
      obtain ⟨x1, x2, x3, rfl, y1, y2, y3⟩ : ∃ x1 x2 x3, vs = [x1, x2, x3] ∧ Rep K F' x1 (.lst (cells.map .int)) ∧ Rep K F' x2 (.int 0) ∧ Rep K F' x3 (.int 1) := by
        cases l with | cons a t => cases t with | cons b t => cases t with | cons d t => cases t; exact ⟨_, _, _, rfl, a, b, d⟩
      cases y2; cases y3
      cases y1 with
      | @lst c ws _ hc l2 =>
        have l2' := rep_ints l2
        subst l2'
        have new : ∀ b xs, F' b = some (.lst xs) → H b = none := fun b xs e => by
          rcases re.fr b _ e with q | q
          · obtain ⟨_, o, y, z⟩ := f1 b _ q; cases z
          · exact q
        have ng := new _ _ hg
        have nc := new _ _ hc
        have hgc : g ≠ c := fun e => by
          subst e
          rw [hg] at hc
          have z := Option.some.inj hc
          have z := HO.lst.inj z
          cases cells with
          | nil => cases z
          | cons x xs => rw [List.map_cons] at z; cases (List.cons.inj z).1
        have q0 := re.fh _ _ hg
        have q2 := re.fh _ _ hc
        let F2 : Hp := fun b => if b = c then some (.ext (cellsO c)) else if b = g then some (.ext (genO g c)) else F0 b
        have Fo : ∀ b, b ≠ g → b ≠ c → F2 b = F0 b := fun b h1 h2 => by show (if b = c then _ else if b = g then _ else _) = _; rw [if_neg h2, if_neg h1]
        have Fg : F2 g = some (.ext (genO g c)) := by show (if g = c then _ else if g = g then _ else _) = _; rw [if_neg hgc, if_pos rfl]
        have Fc : F2 c = some (.ext (cellsO c)) := if_pos rfl
        have old : ∀ b u, H b = some u → b ≠ g ∧ b ≠ c := fun b u e => ⟨fun z => (by rw [z, ng] at e; cases e), fun z => (by rw [z, nc] at e; cases e)⟩
        have Ho : ∀ b, b ≠ g → b ≠ c → (upd (upd H' g (.ext (genO g c))) c (.ext (cellsO c))) b = H' b := fun b h1 h2 => by rw [upd_ne h2, upd_ne h1]
        refine ⟨_, rlx_close q0 q2 hgc gv, kq _ _ F2 .gen ⟨fun b u e => ?_, fun b u e => ?_, fun b u e => ?_, fun b u e => ?_⟩ (Val.of (.gen ⟨Fg, Fc, hgc⟩)) hq⟩
        · obtain ⟨h1, h2⟩ := old b u e
          rw [Ho b h1 h2]; exact re.bh b u e
        · obtain ⟨h1, h2⟩ := old b u (sm _ _ e)
          rw [Fo b h1 h2]; exact e
        · by_cases h2 : b = c
          · subst h2; rw [Fc] at e; rw [upd_same]; exact e
          · by_cases h1 : b = g
            · subst h1; rw [Fg] at e; rw [upd_ne h2, upd_same]; exact e
            · rw [Fo b h1 h2] at e
              rw [Ho b h1 h2]
              exact re.bh b u (sm _ _ e)
        · by_cases h2 : b = c
          · subst h2; exact .inr nc
          · by_cases h1 : b = g
            · subst h1; exact .inr ng
            · rw [Fo b h1 h2] at e; exact .inl e
  | _ => exact (show False from hq).elim
end
/-- the law's def -/
def lawM : List D → M D
  | [.scr _] => fun Q _ => Q (.bl true)
  | _ => fail
theorem law_sp (n : Nat) : ∀ (K : PySem.W.Frag) (H : Hp) (a : Addr) (ns : List Int), ns.length ≤ n → Only H → SqL K H a (ns.map V.int) → SpM K 1 lawM [.ref a] H (fun v _ => v = .bl true) fun _ _ _ => False := by
  intro K H a ns _ only sq
  refine ⟨rfl, H, [.scr ns], fun d => d = .bl true, fun _ => False, Same.refl H, .cons (.scr ?_) .nil, rfl, fun v H' F' d g r q => ?_⟩
  · rcases sq with (h | h) | h
    · rcases only a with z | ⟨ob, xs, z⟩
      · rw [z] at h; cases h
      · rw [z] at h; cases h
    · exact .inl h
    · exact .inr h
  · subst q; cases r.rep; rfl

/-! ### a tuple to a tuple that is not stored name by name -/
def noSwapB (g : Sg) (ts vs : List Expr) : Bool :=
  !(ts.length == 2 || ts.length == 3) || vs.length != ts.length || (!(vs.any isStar) && ((ts.filterMap fun
    | .Name id pos => if (match g.sc.names.lookup id with | some .local => true | _ => false) && pos.line == (ts.head?.map (·.pos.line)).getD 0 then some id else none
    | _ => none).length != ts.length))
theorem stores_noB {X : Cx} {g : Sg} (ok : SgOk X g) {ts vs : List Expr} {k k2 : Nat} {p p2 : Pos} (h : noSwapB g ts vs = true) : swappedStores [.Tuple ts k p] (.Tuple vs k2 p2) X.env = pure none := by
  have hk : X.env.scope.kind = .function := by rw [ok.sc]; exact ok.kind
  have hb : X.env.blockKind = .function := by unfold PySem.Env.blockKind; rw [hk]; rfl
  have kn : ∀ x, (match g.sc.names.lookup x with | some .local => true | _ => false) = (X.env.kindOf x == some .local) := fun x => by
    show _ = (X.env.scope.names.lookup x == some .local)
    rw [ok.sc]
    cases g.sc.names.lookup x with
    | none => rfl
    | some k => cases k <;> rfl
  unfold noSwapB at h
  simp only [kn] at h
  unfold swappedStores
  simp only [hb]
  show (if (!(ts.length == 2 || ts.length == 3) || vs.length != ts.length || (ScopeKind.function != ScopeKind.function)) = true then pure none else _) = _
  split
  · rfl
  · rename_i h1
    have h2 : (!(ts.length == 2 || ts.length == 3) || vs.length != ts.length) = false := by
      cases q : (!(ts.length == 2 || ts.length == 3) || vs.length != ts.length) with
      | false => rfl
      | true => rw [q] at h1; exact absurd rfl h1
    rw [h2, Bool.false_or, Bool.and_eq_true] at h
    obtain ⟨h3, h4⟩ := h
    have h3 : vs.any isStar = false := by simpa using h3
    show (if vs.any isStar = true then pure none else _) = _
    rw [h3, if_neg Bool.false_ne_true]
    have : ∀ (names : List Str) (rest : Sem (Option (List Str))), (names.length != ts.length) = true → (if (names.length != ts.length || names.eraseDups.length != names.length) = true then pure none else rest) = (pure none : Sem (Option (List Str))) := fun names rest q => by
      rw [q, Bool.true_or, if_pos rfl]
    exact this _ _ h4
def sTup2 : SR := fun r g st => match st with
  | .Assign [.Tuple ts k p] (.Tuple vs k2 p2) _ => if noSwapB g ts vs = true then match gOf g 6 (.Tuple ts k p), fOf r g (.Tuple vs k2 p2) with
    | some (_, gg), some x => some (sAsg gg x)
    | _, _ => none else none
  | _ => none
theorem sTup2_ok : SrOk sTup2 := by
  intro r R X g E st c ok hp h
  unfold sTup2 at h
  split at h
  · split at h
    · rename_i hn
      split at h
      · rename_i sl gg x h1 h2
        cases h
        exact rs_asg (fOf_ok R ok h2) (gOf_ok (p := (sl, gg)) ok h1) (by unfold swapsWithSole; exact noComp_sw rfl _ _) (stores_noB ok hn) rfl
      · cases h
    · cases h
  · cases h

def noM : List D → M (D × Bool) := fun _ => fail
theorem b_no {X : Cx} {T : String} : CallR X (.type T) (rcM X.K noM) := by
  intro pins s σ H xs us Q I r ⟨_, _, _, _, _, _, h, _⟩
  exact (show False from h).elim
end DL

namespace DL
open PySem L2

/-! ### reckoning with the mirrors -/
section
variable {i j : Int} {x y : D} {xs ys ds : List D} {a b : Str}
theorem bin_addI : binM .Add (.int i) (.int j) = ret (.int (i + j), false) := rfl
theorem bin_subI : binM .Sub (.int i) (.int j) = ret (.int (i - j), false) := rfl
theorem bin_mulI : binM .Mult (.int i) (.int j) = fun Q _ => CMul i j ∧ Q (.int (i * j), false) := rfl
theorem bin_divI : binM .FloorDiv (.int i) (.int j) = fun Q _ => CDiv i j ∧ Q (.int (i / j), false) := rfl
theorem bin_modI : binM .Mod (.int i) (.int j) = fun Q _ => 0 < j ∧ Q (.int (i % j), false) := rfl
theorem bin_powI : binM .Pow (.int i) (.int j) = fun Q _ => CPow i j ∧ Q (.int (i ^ j.toNat), false) := rfl
theorem bin_addS : binM .Add (.str a) (.str b) = fun Q _ => a.length + b.length ≤ sizeLine ∧ Q (.str (a ++ b), false) := rfl
theorem bin_addL : binM .Add (.lst xs) (.lst ys) = fun Q _ => xs.length + ys.length ≤ sizeLine ∧ Q (.lst (xs ++ ys), true) := rfl
theorem bin_addT : binM .Add (.tup xs) (.tup ys) = fun Q _ => xs.length + ys.length ≤ sizeLine ∧ Q (.tup (xs ++ ys), false) := rfl
theorem bin_mulL : binM .Mult (.lst xs) (.int i) = fun Q _ => (-(2 ^ 63) ≤ i ∧ i < 2 ^ 63 ∧ xs.length * i.toNat ≤ sizeLine) ∧ Q (.lst (List.replicate i.toNat xs).flatten, true) := rfl
theorem bin_mulT : binM .Mult (.tup xs) (.int i) = fun Q _ => xs ≠ [] ∧ 2 ≤ i ∧ i ≤ 1000 ∧ xs.length ≤ 1000 ∧ Q (.tup (List.replicate i.toNat xs).flatten, false) := rfl
theorem bin_mulS : binM .Mult (.str a) (.int i) = fun Q _ => MulOk a i ∧ Q (.str (Txt.mul a i), false) := rfl
theorem cmp_eq : cmpM .Eq x y = eqM x y := rfl
theorem cmp_ne : cmpM .NotEq x y = bnd (eqM x y) fun b => ret (!b) := rfl
theorem cmp_lt : cmpM .Lt (.int i) (.int j) = ret (decide (i < j)) := rfl
theorem cmp_le : cmpM .LtE (.int i) (.int j) = ret (decide (i ≤ j)) := rfl
theorem cmp_gt : cmpM .Gt (.int i) (.int j) = ret (decide (j < i)) := rfl
theorem cmp_ge : cmpM .GtE (.int i) (.int j) = ret (decide (j ≤ i)) := rfl
theorem cmp_is : cmpM .Is x .non = isNon x := rfl
theorem cmp_isnt : cmpM .IsNot x .non = bnd (isNon x) fun b => ret (!b) := rfl
theorem cmp_inS : cmpM .In (.str a) (.str b) = ret (inStr a b) := rfl
theorem cmp_ninS : cmpM .NotIn (.str a) (.str b) = ret (!inStr a b) := rfl
theorem eq_int : eqM (.int i) (.int j) = fun Q _ => Q (i == j) := rfl
theorem eq_str : eqM (.str a) (.str b) = fun Q _ => Q (a == b) := rfl
theorem ix_lst : ixM (.lst ds) (.int i) = fun Q _ => match atI ds i with | some d => Q d | none => False := rfl
theorem ix_tup : ixM (.tup ds) (.int i) = fun Q _ => match atI ds i with | some d => Q d | none => False := rfl
theorem tru_bl {k : Bool} : truM (.bl k) = ret k := rfl
theorem tru_lst : truM (.lst ds) = ret (!ds.isEmpty) := rfl
theorem tru_tup : truM (.tup ds) = ret (!ds.isEmpty) := rfl
theorem tru_int : truM (.int i) = ret (i != 0) := rfl
theorem tru_non : truM .non = ret false := rfl
theorem non_non : isNon .non = ret true := rfl
theorem non_int : isNon (.int i) = ret false := rfl
theorem non_str : isNon (.str a) = ret false := rfl
theorem non_bl {k : Bool} : isNon (.bl k) = ret false := rfl
theorem non_lst : isNon (.lst ds) = ret false := rfl
theorem non_tup : isNon (.tup ds) = ret false := rfl
theorem at_zero : atI (x :: xs) 0 = some x := by
  unfold atI ixN
  rw [if_pos (Int.le_refl 0), if_pos (by rw [List.length_cons]; omega)]; rfl
theorem at_one : atI (x :: y :: xs) 1 = some y := by
  unfold atI ixN
  rw [if_pos (by decide), if_pos (by rw [List.length_cons, List.length_cons]; omega)]; rfl
theorem at_two {z : D} : atI (x :: y :: z :: xs) 2 = some z := by
  unfold atI ixN
  rw [if_pos (by decide), if_pos (by rw [List.length_cons, List.length_cons, List.length_cons]; omega)]; rfl
theorem at_nat {n : Nat} (h : n < ds.length) : atI ds (n : Int) = some ds[n] := by
  unfold atI ixN
  rw [if_pos (by omega), if_pos (by omega)]
  show ds[(n : Int).toNat]? = _
  rw [Int.toNat_natCast, List.getElem?_eq_getElem h]
theorem at_last {h : ds ≠ []} : atI ds (-1) = some (ds.getLast h) := by
  have hl := List.length_pos_iff.mpr h
  unfold atI ixN
  rw [if_neg (by decide), if_pos (by omega)]
  show ds[(-1 + (ds.length : Int)).toNat]? = _
  have e : (-1 + (ds.length : Int)).toNat = ds.length - 1 := by omega
  rw [e, List.getElem?_eq_getElem (by omega), List.getLast_eq_getElem]
end
local macro_rules | `(tactic| walk_at "dl") => `(tactic| simp only [ret, fail, bnd, frz, cC, cVar, bVar, cBin, cNeg, cNot, cAnd, cOr, cIf, vT, tCm, tCh, tTru, tNo, tAn, tOr', cNil, cCons, cTup, cLst, cIx, oNo, oIs, cSl, cCall, callD, cCallK, cB, sNil, sSeq, sDrop, sSet, sAsg, sPar, sRet, sRetN, sIf, sBrk, sCnt, sNo, sFor, sFrz, sApp, sPut, sSetU, uOf, uPop, uPopAt, isOwL, sAdopt,
  gNm, gTp, gsCons, gsNil, tYesD, cLc, iSeq, iRng, iEn, cIsi, cLRg, cBest, cel, lenM, absM, listM, tupleM, itemsM, enumM, rgsM,
  bin_addI, bin_subI, bin_mulI, bin_divI, bin_modI, bin_powI, bin_addS, bin_addL, bin_addT, bin_mulL, bin_mulT, bin_mulS, cmp_eq, cmp_ne, cmp_lt, cmp_le, cmp_gt, cmp_ge, cmp_is, cmp_isnt, cmp_inS, cmp_ninS, eq_int, eq_str, ix_lst, ix_tup, tru_bl, tru_lst, tru_tup, tru_int, tru_non, non_non, non_int, non_str, non_bl, non_lst, non_tup, at_zero, at_one, at_two,
  List.getElem?_cons_zero, List.getElem?_cons_succ, List.set_cons_zero, List.set_cons_succ, Bool.false_and, Bool.true_and, Bool.and_false, Bool.and_true, Bool.false_eq_true, if_true, if_false, ite_true, ite_false, List.length_cons, List.length_nil, List.length_map, true_and, and_true, ne_eq, not_true_eq_false, not_false_eq_true, reduceCtorEq, Nat.reduceAdd, Nat.zero_add, *])

theorem at_ints {cells : List Int} {a : Int} (h0 : 0 ≤ a) (h1 : a < cells.length) : atI (cells.map D.int) a = some (.int (cells.getD a.toNat 0)) := by
  unfold atI ixN
  rw [List.length_map, if_pos h0, if_pos h1, Option.bind_some, List.getElem?_map, List.getD_eq_getElem?_getD, List.getElem?_eq_getElem (by omega)]
  rfl
theorem ix_nn {n : Nat} {a : Int} (h0 : 0 ≤ a) (h1 : a < n) : ixN n a = some a.toNat := by
  unfold ixN; rw [if_pos h0, if_pos h1]
theorem getD_mem {cells : List Int} {i : Nat} (h : i < cells.length) : cells.getD i 0 ∈ cells := by
  rw [List.getD_eq_getElem?_getD, List.getElem?_eq_getElem h]; exact List.getElem_mem h
theorem mod_lt' {a b : Int} (h : 0 < b) : 0 ≤ a % b ∧ a % b < b := ⟨Int.emod_nonneg _ (by omega), Int.emod_lt_of_pos _ h⟩
def thrOk (thr : CB) : Prop := ∀ ρ Q E, Q (.int 1000000000000000000) → thr ρ Q E
def mixOk (mix : CB) : Prop := ∀ (cc g : Addr) (i m n at' cell : Int) (cs : List D) (Q : D → Prop) (E : Xn → Prop), 0 ≤ m → m < 2147483647 → (∀ v, Q (.int v)) →
  mix [.ow (.lst [.raw (.ref cc), .int i, .int m]) (some g), .sh (.int n), .ow (.lst cs) (some cc), .sh (.int at'), .sh (.int cell), .no] Q E
def endOk (fin : CB) : Prop := ∀ (cc g : Addr) (i m n at' cell : Int) (cs : List D) (Q : D → Prop) (E : Xn → Prop), 0 ≤ m → m < 2147483647 → 0 < n → (∀ v, 0 ≤ v → v < n → Q (.int v)) →
  fin [.ow (.lst [.raw (.ref cc), .int i, .int m]) (some g), .sh (.int n), .ow (.lst cs) (some cc), .sh (.int at'), .sh (.int cell), .no] Q E
theorem draw_std {thr mix fin b1 b2 : CB} (ht : thrOk thr) (hx : mixOk mix) (hf : endOk fin)
    (h1 : ∀ (s g c : Cell) (n a x : Int) (l : Cell) Q E, 0 < n → n < 2 ^ 30 → Q (.int (x / n)) → b1 [s, .sh (.int n), c, .sh (.int a), .sh (.int x), l] Q E) (h2 : ∀ (s g c : Cell) (n a x : Int) (l : Cell) Q E, 0 < n → Q (.int (x % n)) → b2 [s, .sh (.int n), c, .sh (.int a), .sh (.int x), l] Q E) :
    DrawC (sSeq (sSet 2 true (cIx (bVar 0) (frz (cC (.int 0))))) (sAdopt 2 5 (sSeq (sSet 3 false (cBin .Mod (frz (cIx (bVar 0) (frz (cC (.int 1))))) (frz (cB lenM (cCons (bVar 2) (cNil)))))) (sSeq (sSet 4 false (cIx (bVar 2) (bVar 3)))
      (sSeq (sIf (tCm .GtE (bVar 4) thr) (sSeq (sPut 2 b1 (frz (cVar 3))) (sRet b2)) (sNil))
        (sSeq (sPut 0 (frz (cBin .Add (frz (cIx (bVar 0) (frz (cC (.int 1))))) (frz (cC (.int 1))))) (frz (cC (.int 1)))) (sSeq (sPut 0 (frz (cBin .Mod mix (frz (cC (.int 2147483647))))) (frz (cC (.int 2)))) (sRet fin)))))))) := by
  intro g cc i m cells n rt E gv n0 n1 k
  have hlen : 0 < cells.length := List.length_pos_iff.mpr gv.ne
  have hl : (0 : Int) < cells.length := by omega
  obtain ⟨a0, a1⟩ := mod_lt' (a := i) hl
  have e3 : ixN 3 1 = some 1 := rfl
  have e4 : ixN 3 2 = some 2 := rfl
  have ec := at_ints a0 a1
  have ei := ix_nn a0 a1
  have hmem := getD_mem (cells := cells) (i := (i % (cells.length : Int)).toNat) (by omega)
  generalize hcell : cells.getD (i % (cells.length : Int)).toNat 0 = cell at ec hmem
  have c0 := gv.pos _ hmem
  clear hcell
  walk_at "dl"
  refine ⟨by decide, ht _ _ _ ?_⟩
  walk_at "dl"
  by_cases hc : (1000000000000000000 : Int) ≤ cell
  · rw [decide_eq_true hc]
    walk_at "dl"
    refine h1 _ (.no) _ _ _ _ _ _ _ n0 n1 ?_
    try walk_at "dl"
    refine h2 _ (.no) _ _ _ _ _ _ _ n0 ?_
    obtain ⟨q0, q1⟩ := mod_lt' (a := cell) n0
    have ed : (cells.map D.int).set (i % (cells.length : Int)).toNat (.int (cell / n)) = (cells.set (i % (cells.length : Int)).toNat (cell / n)).map D.int := by rw [List.map_set]
    rw [ed]
    refine k _ i m _ _ q0 q1 ⟨gv.i0, gv.m0, gv.m1, ?_, fun x hx => ?_, by rw [List.length_set]; exact gv.len⟩ rfl rfl
    · intro z
      have := congrArg List.length z
      rw [List.length_set] at this
      have hl := List.length_pos_iff.mpr gv.ne
      rw [this] at hl; exact absurd hl (by decide)
    · rcases List.mem_or_eq_of_mem_set hx with hx | hx
      · exact gv.pos _ hx
      · rw [hx]; exact Int.ediv_nonneg c0 (by omega)
  · rw [decide_eq_false hc]
    walk_at "dl"
    refine hx cc g _ m n _ cell _ _ _ gv.m0 gv.m1 fun v => ?_
    walk_at "dl"
    refine ⟨by decide, ?_⟩
    obtain ⟨v0, v1⟩ := mod_lt' (a := v) (b := 2147483647) (by decide)
    refine hf cc g _ _ n _ cell _ _ _ v0 v1 n0 fun u u0 u1 => ?_
    exact k u _ _ _ _ u0 u1 ⟨by have := gv.i0; omega, v0, v1, gv.ne, gv.pos, gv.len⟩ rfl rfl
/-- the forms in which the draws are written -/
abbrev S (i : Int) : CB := frz (cIx (bVar 0) (frz (cC (.int i))))
abbrev L (i : Int) : CB := frz (cC (.int i))
abbrev mixA : CB := frz (cBin .Add (frz (cBin .Add (frz (cBin .Add (frz (cBin .Mult (S 2) (L 48271))) (bVar 4))) (L 12345))) (frz (cBin .Mult (L 7919) (S 1))))
abbrev mixB : CB := frz (cBin .Add (frz (cBin .Add (frz (cBin .Add (frz (cBin .Mult (S 2) (L 48271))) (bVar 4))) (frz (cBin .Mult (L 7919) (S 1))))) (L 12345))
abbrev mixC : CB := frz (cBin .Add (frz (cBin .Add (frz (cBin .Add (frz (cBin .Mult (S 2) (L 48271))) (bVar 4))) (L 12345))) (S 1))
abbrev finA : CB := frz (cBin .Mod (frz (cBin .FloorDiv (frz (cBin .Mod (frz (cBin .Mult (S 2) (S 2))) (L 2147483629))) (L 16))) (bVar 1))
abbrev thrA : CB := L 1000000000000000000
abbrev thrB : CB := frz (cBin .Pow (L 10) (L 18))
theorem thrA_ok : thrOk thrA := fun ρ Q E h => h
theorem thrB_ok : thrOk thrB := fun ρ Q E h => ⟨⟨by decide, by decide, by decide⟩, h⟩
theorem mixA_ok : mixOk mixA := by
  intro cc g i m n a cell cs Q E m0 m1 h
  walk_at "dl"
  exact ⟨.inr ⟨by decide, by decide⟩, .inl ⟨by decide, by decide⟩⟩
theorem mixB_ok : mixOk mixB := by
  intro cc g i m n a cell cs Q E m0 m1 h
  walk_at "dl"
  exact ⟨.inr ⟨by decide, by decide⟩, .inl ⟨by decide, by decide⟩⟩
theorem mixC_ok : mixOk mixC := by
  intro cc g i m n a cell cs Q E m0 m1 h
  walk_at "dl"
  exact .inr ⟨by decide, by decide⟩
theorem finA_ok : endOk finA := by
  intro cc g i m n a cell cs Q E m0 m1 n0 h
  walk_at "dl"
  refine ⟨.inl ⟨by omega, by omega⟩, by decide, ⟨by decide, by decide⟩, ?_⟩
  obtain ⟨q0, q1⟩ := mod_lt' (a := m * m % 2147483629 / 16) n0
  exact h _ q0 q1
end DL

namespace DL
open PySem L2
local macro_rules | `(tactic| walk_at "dl") => `(tactic| simp only [ret, fail, bnd, frz, cC, cVar, bVar, cBin, cNeg, cNot, cAnd, cOr, cIf, vT, tCm, tCh, tTru, tNo, tAn, tOr', cNil, cCons, cTup, cLst, cIx, oNo, oIs, cSl, cCall, callD, cCallK, cB, sNil, sSeq, sDrop, sSet, sAsg, sPar, sRet, sRetN, sIf, sBrk, sCnt, sNo, sFor, sFrz, sApp, sPut, sSetU, uOf, uPop, uPopAt, isOwL, sAdopt,
  gNm, gTp, gsCons, gsNil, tYesD, cLc, iSeq, iRng, iEn, cIsi, cLRg, cBest, cel, lenM, absM, listM, tupleM, itemsM, enumM, rgsM,
  bin_addI, bin_subI, bin_mulI, bin_divI, bin_modI, bin_powI, bin_addS, bin_addL, bin_addT, bin_mulL, bin_mulT, bin_mulS, cmp_eq, cmp_ne, cmp_lt, cmp_le, cmp_gt, cmp_ge, cmp_is, cmp_isnt, cmp_inS, cmp_ninS, eq_int, eq_str, ix_lst, ix_tup, tru_bl, tru_lst, tru_tup, tru_int, tru_non, non_non, non_int, non_str, non_bl, non_lst, non_tup, at_zero, at_one, at_two,
  List.getElem?_cons_zero, List.getElem?_cons_succ, List.set_cons_zero, List.set_cons_succ, Bool.false_and, Bool.true_and, Bool.and_false, Bool.and_true, Bool.false_eq_true, if_true, if_false, ite_true, ite_false, List.length_cons, List.length_nil, List.length_map, true_and, and_true, ne_eq, not_true_eq_false, not_false_eq_true, reduceCtorEq, Nat.reduceAdd, Nat.zero_add, *])

/-! ### comprehensions and loops -/
theorem lc_rel {g : CG} {t : CT} {e : CB} {ρ : Env} {E : Xn → Prop} (st : D → Env) (keep : D → Bool) (P : D → D → Prop) : ∀ {ds : List D} {Q : List D → Prop}, (∀ d ∈ ds, ∀ Q, Q (st d) → g d ρ Q E) → (∀ d ∈ ds, ∀ Q : Bool → Prop, Q (keep d) → t (st d) Q E) →
    (∀ d ∈ ds, keep d = true → ∀ Q : D → Prop, (∀ x, P d x → Q x) → e (st d) Q E) → (∀ rs, Paired P (ds.filter keep) rs → Q rs) → lcM g t e ρ ds Q E
  | [], Q, _, _, _, hQ => hQ [] .nil
  | d :: ds, Q, hg, ht, he, hQ => by
    unfold lcM
    refine hg d List.mem_cons_self _ (ht d List.mem_cons_self _ ?_)
    have tl := fun (Q' : List D → Prop) => lc_rel st keep P (ds := ds) (Q := Q') (fun d hd => hg d (List.mem_cons_of_mem _ hd)) (fun d hd => ht d (List.mem_cons_of_mem _ hd)) (fun d hd => he d (List.mem_cons_of_mem _ hd))
    cases hk : keep d with
    | true =>
      show bnd (e (st d)) _ Q E
      refine he d List.mem_cons_self hk _ fun x px => tl _ fun rs hr => hQ _ ?_
      rw [List.filter_cons, if_pos hk]
      exact .cons px hr
    | false =>
      show lcM g t e ρ ds Q E
      refine tl _ fun rs hr => hQ _ ?_
      rw [List.filter_cons, if_neg (by rw [hk]; exact Bool.false_ne_true)]
      exact hr
theorem pair_map {f : D → D} : ∀ {ds rs : List D}, Paired (fun d x => x = f d) ds rs → rs = ds.map f
  | _, _, .nil => rfl
  | _, _, .cons h t => by rw [List.map_cons, ← pair_map t, h]
theorem lc_fun {g : CG} {t : CT} {e : CB} {ρ : Env} {E : Xn → Prop} (st : D → Env) (keep : D → Bool) (f : D → D) {ds : List D} {Q : List D → Prop} (hg : ∀ d ∈ ds, ∀ Q, Q (st d) → g d ρ Q E) (ht : ∀ d ∈ ds, ∀ Q : Bool → Prop, Q (keep d) → t (st d) Q E)
    (he : ∀ d ∈ ds, keep d = true → ∀ Q : D → Prop, Q (f d) → e (st d) Q E) (hQ : Q ((ds.filter keep).map f)) : lcM g t e ρ ds Q E :=
  lc_rel st keep (fun d x => x = f d) hg ht (fun d hd hk Q h => he d hd hk Q (h _ rfl)) fun rs hr => by rw [pair_map hr]; exact hQ
theorem lc_map {i : Nat} {e : CB} {ρ : Env} {E : Xn → Prop} (f : D → D) {ds : List D} {Q : List D → Prop} (he : ∀ d ∈ ds, ∀ Q : D → Prop, Q (f d) → e (ρ.set i (.sh d)) Q E) (hQ : Q (ds.map f)) : lcM (gNm i) tYesD e ρ ds Q E :=
  lc_fun (fun d => ρ.set i (.sh d)) (fun _ => true) f (fun d _ Q h => h) (fun d _ Q h => h) (fun d hd _ Q h => he d hd Q h) (by rw [List.filter_eq_self.mpr fun _ _ => rfl]; exact hQ)
theorem for_inv {g : CG} {b : CS} {E : Xn → Prop} {W : EndD} (I : Nat → Env → Prop) : ∀ {ds : List D} {k : Nat} {ρ : Env}, I k ρ →
    (∀ i d ρ (nx : Env → Prop), ds[i]? = some d → I (k + i) ρ → (∀ ρ', I (k + i + 1) ρ' → nx ρ') → g d ρ (fun ρ' => b ρ' { nx := nx, rt := W.rt, bk := W.nx, ct := nx, ro := W.ro } E) E) → (∀ ρ, I (k + ds.length) ρ → W.nx ρ) → forM g b ds ρ W E
  | [], k, ρ, h0, _, hd => hd ρ h0
  | d :: ds, k, ρ, h0, hs, hd => by
    unfold forM
    refine hs 0 d ρ (fun ρ2 => forM g b ds ρ2 W E) rfl h0 fun ρ' h' => ?_
    refine for_inv I (k := k + 1) h' (fun i d ρ nx hi hI hn => ?_) fun ρ h => hd ρ ?_
    · have e : k + 1 + i = k + (i + 1) := by omega
      rw [e] at hI hn
      exact hs (i + 1) d ρ nx (by simpa using hi) hI hn
    · have e : k + (d :: ds).length = k + 1 + ds.length := by rw [List.length_cons]; omega
      rw [e]; exact h

/-! ### the helpers that the laws share -/
theorem cut_take {α : Type} (xs : List α) (n : Nat) : cutA xs none (some (n : Int)) = xs.take n := by
  unfold cutA
  rw [HT.sIx_nat]
  show (xs.drop 0).take (min n xs.length - 0) = _
  rw [List.drop_zero, Nat.sub_zero]
  rcases Nat.le_total n xs.length with h | h
  · rw [Nat.min_eq_left h]
  · rw [Nat.min_eq_right h, List.take_length, List.take_of_length_le h]
theorem cut_drop {α : Type} (xs : List α) (n : Nat) : cutA xs (some (n : Int)) none = xs.drop n := by
  unfold cutA
  rw [HT.sIx_nat]
  show (xs.drop (min n xs.length)).take (xs.length - min n xs.length) = _
  rcases Nat.le_total n xs.length with h | h
  · rw [Nat.min_eq_left h, List.take_of_length_le (by rw [List.length_drop]; exact Nat.le_refl _)]
  · rw [Nat.min_eq_right h, List.drop_length, List.drop_of_length_le h, List.take_nil]
def begunC (j : Nat) : CS := sRet (frz (cLst (cCons (frz (cOr (cLc [j] (iSeq (frz (cSl (bVar 0) (oNo) (oIs (frz (cC (.int 63))))))) (gNm j) (tYesD) (frz (cB absM (cCons (bVar j) (cNil))))) (cLst (cCons (frz (cC (.int 7))) (cNil))))) (cCons (frz (cC (.int 0))) (cCons (frz (cC (.int 1))) (cNil))))))
theorem begun_std {x y : Str} : BegunC (begunC 1) [x, y] := by
  intro ns rt E h
  show begunC 1 [.sh (.scr ns), .no] _ E
  have e63 : (63 : Int) = ((63 : Nat) : Int) := rfl
  unfold begunC
  walk_at "dl"
  show ((cutA ns none (some 63)).map D.int).length ≤ sizeLine ∧ _
  rw [e63, cut_take]
  have hl : (ns.take 63).length ≤ 63 := by rw [List.length_take]; exact Nat.min_le_left _ _
  refine ⟨by rw [List.length_map]; exact Nat.le_trans hl (by decide), ?_⟩
  let ab : D → D := fun d => match d with | .int i => .int (if i < 0 then -i else i) | d => d
  refine lc_map ab (fun d hd Q q => ?_) ?_
  · obtain ⟨i, _, rfl⟩ := List.mem_map.mp hd
    exact q
  · have em : ((ns.take 63).map D.int).map ab = ((ns.take 63).map fun i : Int => if i < 0 then -i else i).map D.int := by rw [List.map_map, List.map_map]; rfl
    rw [em]
    cases hc : (ns.take 63).map fun i : Int => if i < 0 then -i else i with
    | nil =>
      show (1 ≤ sizeLine ∧ _)
      refine ⟨by decide, by decide, ?_⟩
      exact h [7] _ ⟨by decide, by decide, by decide, by decide, by decide, by decide⟩
    | cons a r =>
      show (3 ≤ sizeLine ∧ _)
      refine ⟨by decide, ?_⟩
      refine h (a :: r) _ ⟨by decide, by decide, by decide, by simp, fun z hz => ?_, by rw [← hc, List.length_map]; exact hl⟩
      rw [← hc] at hz
      obtain ⟨i, _, rfl⟩ := List.mem_map.mp hz
      split <;> omega

/-- data that may be compared -/
def pyOk (ds : List D) : Prop := ∀ d ∈ ds, ∃ p, d.py = some p ∧ p.canLay0 = true ∧ p.depth ≤ 60
theorem pyOk_some : ∀ {ds : List D}, pyOk ds → ∃ ps, pyL ds = some ps ∧ PyData.canLayAll0 ps = true ∧ PyData.depthAll ps ≤ 60
  | [], _ => ⟨[], rfl, rfl, Nat.zero_le _⟩
  | d :: ds, h => by
    obtain ⟨p, h1, h2, h3⟩ := h d List.mem_cons_self
    obtain ⟨ps, q1, q2, q3⟩ := pyOk_some (ds := ds) fun d hd => h d (List.mem_cons_of_mem _ hd)
    refine ⟨p :: ps, by simp only [pyL, h1, q1], by rw [PyData.canLayAll0, h2, q2]; rfl, ?_⟩
    rw [PyData.depthAll]
    exact Nat.max_le.mpr ⟨h3, q3⟩
theorem pyOk_shaped {ds : List D} (h : pyOk ds) : ∃ ps, pyL ds = some ps ∧ SeqAt.shaped (.list ps) = true ∧ SeqAt.shaped (.tuple ps) = true := by
  obtain ⟨ps, h1, h2, h3⟩ := pyOk_some h
  refine ⟨ps, h1, ?_, ?_⟩ <;>
  · unfold SeqAt.shaped
    rw [PyData.canLay0, h2, PyData.depth]
    simp only [Bool.true_and, decide_eq_true_eq]
    omega
theorem pyL_len : ∀ {ds : List D} {ps : List PyData}, pyL ds = some ps → ps.length = ds.length
  | [], _, h => by cases h; rfl
  | d :: ds, ps, h => by
    simp only [pyL] at h
    split at h
    · cases h; rw [List.length_cons, List.length_cons, pyL_len ‹_›]
    · cases h
theorem eq_nilL {xs : List D} {Q : Bool → Prop} {E : Xn → Prop} (h : pyOk xs) (q : Q xs.isEmpty) : eqM (.lst xs) (.lst []) Q E := by
  obtain ⟨ps, h1, h2, _⟩ := pyOk_shaped h
  unfold eqM
  simp only [fl, D.py, h1, pyL, Option.map_some]
  refine ⟨h2, by decide, ?_⟩
  have hl := pyL_len h1
  cases xs with
  | nil => cases ps with
    | nil => exact q
    | cons _ _ => cases hl
  | cons _ _ => cases ps with
    | nil => cases hl
    | cons _ _ => exact q
theorem eq_nilT {xs : List D} {Q : Bool → Prop} {E : Xn → Prop} (h : pyOk xs) (q : Q xs.isEmpty) : eqM (.tup xs) (.tup []) Q E := by
  obtain ⟨ps, h1, _, h2⟩ := pyOk_shaped h
  unfold eqM
  simp only [fl, D.py, h1, pyL, Option.map_some]
  refine ⟨h2, by decide, ?_⟩
  have hl := pyL_len h1
  cases xs with
  | nil => cases ps with
    | nil => exact q
    | cons _ _ => cases hl
  | cons _ _ => cases ps with
    | nil => cases hl
    | cons _ _ => exact q

/-! ### pick, mixed -/
def pickM : List D → M D
  | [.gen, .lst ds] => fun Q _ => (ds ≠ [] ∧ ds.length ≤ 1000) ∧ ∀ d ∈ ds, Q d
  | [.gen, .tup ds] => fun Q _ => (ds ≠ [] ∧ ds.length ≤ 1000) ∧ ∀ d ∈ ds, Q d
  | _ => fail
def pickC : CS := sRet (frz (cIx (bVar 1) (frz (cCall 2 drawM (cCons (frz (cVar 0)) (cCons (frz (cB lenM (cCons (bVar 1) (cNil)))) (cNil)))))))
theorem pick_std {x y : Str} : ∀ ds QD ED, pickM ds QD ED → pickC (startE [x, y] ds) { nx := fun _ => QD .non, rt := fun d _ => QD d } ED := by
  intro ds QD ED h
  unfold pickM at h
  split at h
  · rename_i ds
    obtain ⟨⟨hn, hl⟩, h⟩ := h
    have hp := List.length_pos_iff.mpr hn
    show pickC [.sh .gen, .sh (.lst ds)] _ ED
    unfold pickC
    walk_at "dl"
    refine ⟨⟨by omega, by omega⟩, fun k k0 k1 => ?_⟩
    obtain ⟨n, rfl⟩ : ∃ n : Nat, k = n := ⟨k.toNat, by omega⟩
    have hn : n < ds.length := by omega
    walk_at "dl"
    rw [at_nat hn]
    exact h _ (List.getElem_mem hn)
  · rename_i ds
    obtain ⟨⟨hn, hl⟩, h⟩ := h
    have hp := List.length_pos_iff.mpr hn
    show pickC [.sh .gen, .sh (.tup ds)] _ ED
    unfold pickC
    walk_at "dl"
    refine ⟨⟨by omega, by omega⟩, fun k k0 k1 => ?_⟩
    obtain ⟨n, rfl⟩ : ∃ n : Nat, k = n := ⟨k.toNat, by omega⟩
    have hn : n < ds.length := by omega
    walk_at "dl"
    rw [at_nat hn]
    exact h _ (List.getElem_mem hn)
  · exact h.elim
theorem take_out {l : List D} {n : Nat} (h : n < l.length) : ([l[n]] ++ l.eraseIdx n).Perm l := by
  rw [List.eraseIdx_eq_take_drop_succ]
  have e : l = l.take n ++ l[n] :: l.drop (n + 1) := by
    rw [← List.drop_eq_getElem_cons h, List.take_append_drop]
  conv => rhs; rw [e]
  rw [List.singleton_append]
  exact List.perm_middle.symm
def mixedM : List D → M D
  | [.gen, .lst ds] => fun Q _ => (pyOk ds ∧ ds.length ≤ 1000) ∧ ∀ es : List D, es.Perm ds → Q (.lst es)
  | _ => fail
def mixedC : CS := sSeq (sPar 2 3 true true (cB listM (cCons (bVar 1) (cNil))) (cLst (cNil))) (sSeq (sWhile (tCm .NotEq (bVar 2) (frz (cLst (cNil)))) (sApp 3 (uPopAt 2 (frz (cCall 2 drawM (cCons (frz (cVar 0)) (cCons (frz (cB lenM (cCons (bVar 2) (cNil)))) (cNil)))))))) (sFrz 3 (sRet (frz (cVar 3)))))
theorem mixed_std {x y z w : Str} : ∀ ds QD ED, mixedM ds QD ED → mixedC (startE [x, y, z, w] ds) { nx := fun _ => QD .non, rt := fun d _ => QD d } ED := by
  intro ds QD ED h
  unfold mixedM at h
  split at h
  · rename_i ds
    obtain ⟨⟨hp, hl⟩, h⟩ := h
    show mixedC [.sh .gen, .sh (.lst ds), .no, .no] _ ED
    unfold mixedC
    walk_at "dl"
    refine ⟨by decide, ?_⟩
    unfold sWhile
    refine ⟨fun n ρ => ∃ left found : List D, n = left.length ∧ ρ = [.sh .gen, .sh (.lst ds), .ow (.lst left) none, .ow (.lst found) none] ∧ (found ++ left).Perm ds, ⟨_, ds, [], rfl, rfl, by rw [List.nil_append]⟩, ?_⟩
    rintro n ρ ⟨left, found, rfl, rfl, pm⟩
    have sub : ∀ d ∈ left, d ∈ ds := fun d hd => pm.mem_iff.mp (List.mem_append_right _ hd)
    have lens := pm.length_eq
    rw [List.length_append] at lens
    walk_at "dl"
    refine ⟨by decide, eq_nilL (fun d hd => hp d (sub d hd)) ?_⟩
    cases hle : left with
    | nil =>
      rw [hle, List.append_nil] at pm
      show QD (.lst found)
      exact h found pm
    | cons a r =>
      rw [← hle]
      have hpos : 0 < left.length := by rw [hle]; exact Nat.succ_pos _
      have he : (!left.isEmpty) = true := by rw [hle]; rfl
      rw [if_pos he]
      refine ⟨⟨by omega, by omega⟩, fun k k0 k1 => ?_⟩
      obtain ⟨n, rfl⟩ : ∃ n : Nat, k = n := ⟨k.toNat, by omega⟩
      have hn : n < left.length := by omega
      have hs : seqIndex? (n : Int) left.length = some n := by
        unfold seqIndex?
        simp only [show ¬ ((n : Int) < 0) from by omega, if_false]
        rw [if_pos (by simp; omega), Int.toNat_natCast]
      show (-2 ^ 63 ≤ (n : Int) ∧ (n : Int) < 2 ^ 63) ∧ _
      refine ⟨⟨by omega, by omega⟩, ?_⟩
      rw [hs]
      show match left[n]? with | some d => _ | none => False
      rw [List.getElem?_eq_getElem hn]
      refine ⟨by rw [sizeLine_eq]; omega, (left.eraseIdx n).length, ?_, left.eraseIdx n, found ++ [left[n]], rfl, rfl, ?_⟩
      · rw [List.length_eraseIdx_of_lt hn]; omega
      · rw [List.append_assoc]
        exact ((take_out hn).append_left found).trans pm
  · exact h.elim
end DL

namespace DL
open PySem L2
section
variable {Ts : List TyN} {ds : List D} {i : Int} {a : Str} {b : Bool} {kvs : List (D × D)}
theorem isi_non : isiM Ts .non = ret (.bl (Ts.any (subN .non)), false) := rfl
theorem isi_bl : isiM Ts (.bl b) = ret (.bl (Ts.any (subN .bl)), false) := rfl
theorem isi_int : isiM Ts (.int i) = ret (.bl (Ts.any (subN .int)), false) := rfl
theorem isi_str : isiM Ts (.str a) = ret (.bl (Ts.any (subN .str)), false) := rfl
theorem isi_lst : isiM Ts (.lst ds) = ret (.bl (Ts.any (subN .lst)), false) := rfl
theorem isi_tup : isiM Ts (.tup ds) = ret (.bl (Ts.any (subN .tup)), false) := rfl
theorem isi_dct : isiM Ts (.dct kvs) = ret (.bl (Ts.any (subN .dct)), false) := rfl
theorem sub_tab : subN .tup .tup = true ∧ subN .tup .lst = false ∧ subN .tup .int = false ∧ subN .tup .bl = false ∧ subN .tup .str = false ∧ subN .tup .dct = false ∧
  subN .lst .tup = false ∧ subN .lst .lst = true ∧ subN .lst .int = false ∧ subN .lst .bl = false ∧ subN .lst .str = false ∧ subN .lst .dct = false ∧
  subN .int .tup = false ∧ subN .int .lst = false ∧ subN .int .int = true ∧ subN .int .bl = false ∧ subN .int .str = false ∧ subN .int .dct = false ∧
  subN .bl .tup = false ∧ subN .bl .lst = false ∧ subN .bl .int = true ∧ subN .bl .bl = true ∧ subN .bl .str = false ∧ subN .bl .dct = false ∧
  subN .str .tup = false ∧ subN .str .lst = false ∧ subN .str .int = false ∧ subN .str .bl = false ∧ subN .str .str = true ∧ subN .str .dct = false ∧
  subN .dct .tup = false ∧ subN .dct .lst = false ∧ subN .dct .int = false ∧ subN .dct .bl = false ∧ subN .dct .str = false ∧ subN .dct .dct = true ∧
  subN .non .tup = false ∧ subN .non .lst = false ∧ subN .non .int = false ∧ subN .non .bl = false ∧ subN .non .str = false ∧ subN .non .dct = false := by
  refine ⟨?_, ?_, ?_, ?_, ?_, ?_, ?_, ?_, ?_, ?_, ?_, ?_, ?_, ?_, ?_, ?_, ?_, ?_, ?_, ?_, ?_, ?_, ?_, ?_, ?_, ?_, ?_, ?_, ?_, ?_, ?_, ?_, ?_, ?_, ?_, ?_, ?_, ?_, ?_, ?_, ?_, ?_⟩ <;> rfl
theorem len_lst : lenM [.lst ds] = ret (.int ds.length, false) := rfl
theorem len_tup : lenM [.tup ds] = ret (.int ds.length, false) := rfl
theorem len_dct : lenM [.dct kvs] = ret (.int kvs.length, false) := rfl
theorem len_str : lenM [.str a] = fun Q _ => a.length ≤ sizeLine ∧ Q (.int a.length, false) := rfl
theorem abs_int : absM [.int i] = ret (.int (if i < 0 then -i else i), false) := rfl
theorem list_lst : listM [.lst ds] = ret (.lst ds, true) := rfl
theorem list_tup : listM [.tup ds] = ret (.lst ds, true) := rfl
theorem tuple_lst : tupleM [.lst ds] = ret (.tup ds, false) := rfl
theorem tuple_tup : tupleM [.tup ds] = ret (.tup ds, false) := rfl
theorem items_lst : itemsM (.lst ds) = ret ds := rfl
theorem items_tup : itemsM (.tup ds) = ret ds := rfl
theorem items_str : itemsM (.str a) = ret (chars a) := rfl
theorem enum_lst : enumM [.lst ds] = ret (enumD ds) := rfl
theorem enum_tup : enumM [.tup ds] = ret (enumD ds) := rfl
end
/-! ### comparing data -/
theorem pyL_map {α : Type} {f : α → D} {p : α → PyData} (h : ∀ a, (f a).py = some (p a)) : ∀ l : List α, pyL (l.map f) = some (l.map p)
  | [] => rfl
  | a :: l => by simp only [List.map_cons, pyL, h, pyL_map h l]
theorem eqv_ints : ∀ xs ys : List Int, PyData.eqvAll (xs.map .int) (ys.map .int) = decide (xs = ys)
  | [], [] => by simp [PyData.eqvAll]
  | [], y :: ys => by simp [PyData.eqvAll]
  | x :: xs, [] => by simp [PyData.eqvAll]
  | x :: xs, y :: ys => by
    simp only [List.map_cons, PyData.eqvAll, eqv_ints xs ys, PyData.eqv]
    by_cases h : x = y
    · subst h; simp
    · have : (x == y) = false := by simpa using h
      rw [this, Bool.false_and]
      simp [h]
theorem shaped_ints (xs : List Int) : SeqAt.shaped (.list (xs.map .int)) = true ∧ SeqAt.shaped (.tuple (xs.map .int)) = true := by
  have h1 := lay_ints xs
  have h2 := depth_ints xs
  have d1 : (PyData.list (xs.map .int)).depth ≤ 64 := by rw [PyData.depth]; omega
  have d2 : (PyData.tuple (xs.map .int)).depth ≤ 64 := by rw [PyData.depth]; omega
  constructor
  · unfold SeqAt.shaped
    rw [PyData.canLay0, h1, decide_eq_true d1]; rfl
  · unfold SeqAt.shaped
    rw [PyData.canLay0, h1, decide_eq_true d2]; rfl
theorem eq_intsL {xs ys : List Int} {Q : Bool → Prop} {E : Xn → Prop} (q : Q (decide (xs = ys))) : eqM (.lst (xs.map .int)) (.lst (ys.map .int)) Q E := by
  unfold eqM
  simp only [fl, D.py, pyL_map (f := D.int) (p := PyData.int) (fun _ => rfl), Option.map_some]
  refine ⟨(shaped_ints xs).1, (shaped_ints ys).1, ?_⟩
  show Q (PyData.eqvAll _ _)
  rw [eqv_ints]; exact q
theorem eq_intsT {xs ys : List Int} {Q : Bool → Prop} {E : Xn → Prop} (q : Q (decide (xs = ys))) : eqM (.tup (xs.map .int)) (.tup (ys.map .int)) Q E := by
  unfold eqM
  simp only [fl, D.py, pyL_map (f := D.int) (p := PyData.int) (fun _ => rfl), Option.map_some]
  refine ⟨(shaped_ints xs).2, (shaped_ints ys).2, ?_⟩
  show Q (PyData.eqvAll _ _)
  rw [eqv_ints]; exact q
theorem intsD_map : ∀ ns : List Int, intsD (ns.map D.int) = some ns
  | [] => rfl
  | n :: ns => by simp only [List.map_cons, intsD, intsD_map ns, Option.map_some]
theorem blsD_map : ∀ ns : List Bool, blsD (ns.map D.bl) = some ns
  | [] => rfl
  | n :: ns => by simp only [List.map_cons, blsD, blsD_map ns, Option.map_some]
theorem maxD_Z {ns : List Int} {Q : D × Bool → Prop} {E : Xn → Prop} (h : ∀ x ∈ ns, 0 ≤ x) (q : Q (.int (ns.foldl max 0), false)) : bestDM true (.int 0) [.lst (ns.map D.int)] Q E := by
  cases ns with
  | nil => exact q
  | cons a r =>
    show bestI true (D.int a :: r.map D.int) Q E
    unfold bestI
    have : intsD (D.int a :: r.map D.int) = some (a :: r) := intsD_map (a :: r)
    rw [this]
    show Q (.int (topI a r), false)
    rw [foldl_top]
    have ha := h a List.mem_cons_self
    have e : (a :: r).foldl max 0 = r.foldl max a := by
      rw [List.foldl_cons]
      have : max 0 a = a := by omega
      rw [this]
    rw [← e]; exact q
end DL

namespace DL
open PySem L2 PySem.Spec PyProof.Rows

/-! ### zip of two sequences, lists or tuples -/
def SqX (K : PySem.W.Frag) (k : Bool) (H : Hp) (a : Addr) (xs : List V) : Prop := if k = true then SqT K H a xs else SqL K H a xs
def ItAt (k : Bool) (it a : Addr) (i : Nat) (h : Heap) : Prop := if k = true then h.IsTupleIter it a i else h.IsListIter it a i
def IsX (k : Bool) (a : Addr) (items : Array Value) (h : Heap) : Prop := if k = true then h.IsTuple a items else h.IsList a items
def itObj (k : Bool) (a : Addr) : Obj := { cls := .type (if k = true then "tuple_iterator" else "list_iterator"), data := .fields #[.ref a, .int 0 0] }
theorem ItAt.obj {k : Bool} {it a : Addr} {i : Nat} {h : Heap} (x : ItAt k it a i h) : ∃ o, h.get? it = some o ∧ ∀ v, o.data ≠ .cell v := by
  cases k with
  | true => obtain ⟨o, e, _, d⟩ := (show h.IsTupleIter it a i from x); exact ⟨o, e, fun v q => by rw [d] at q; cases q⟩
  | false => obtain ⟨o, e, _, d⟩ := (show h.IsListIter it a i from x); exact ⟨o, e, fun v q => by rw [d] at q; cases q⟩
theorem ItAt.lt {k : Bool} {it a : Addr} {i : Nat} {h : Heap} (x : ItAt k it a i h) : it < h.objs.size := by
  obtain ⟨o, e, _⟩ := x.obj; exact Heap.lt_size e
theorem ItAt.keep {k : Bool} {it a : Addr} {i : Nat} {h h' : Heap} (x : ItAt k it a i h) (q : ∀ o, h.get? it = some o → h'.get? it = some o) : ItAt k it a i h' := by
  cases k with
  | true => exact (show h.IsTupleIter it a i from x).at q
  | false => exact (show h.IsListIter it a i from x).at q
theorem draws_x {prog : Program} {w : World} {A : Around} (k : Bool) (hh : A.handled = none) (it a : Addr) (hne : a ≠ it) (items : Array Value) :
    Draws prog w A it [it, a] items.size (fun i v => items[i]? = some v) (fun i h => ItAt k it a i h ∧ IsX k a items h) := by
  cases k with
  | true => exact Draws.tuple hh it a hne items
  | false => exact Draws.list hh it a hne items
theorem begins_x (k : Bool) (a : Addr) (items : Array Value) : Begins (.ref a) (itObj k a) (IsX k a items) := by
  cases k with
  | true => exact begins_tuple a items
  | false => exact begins_list a items
theorem SqX.is {X : Cx} {pins : List (Addr × Obj)} {σ : L2.St} {H : Hp} {s : Shared} {k : Bool} {a : Addr} {xs : List V} (I : Inv X pins σ H s) (h : SqX X.K k H a xs) : ∃ its : List Value, Vals xs its ∧ IsX k a its.toArray s.heap := by
  cases k with
  | true => obtain ⟨its, rv, p, _⟩ := I.tuple (show SqT X.K H a xs from h); exact ⟨its, rv, p⟩
  | false => obtain ⟨its, rv, p, _⟩ := I.list (show SqL X.K H a xs from h); exact ⟨its, rv, p.isList⟩
theorem IsX.ne {k j : Bool} {it a b : Addr} {i : Nat} {items : Array Value} {h : Heap} (x : IsX k a items h) (y : ItAt j it b i h) : a ≠ it := fun e => by
  subst e
  cases k with
  | true =>
    obtain ⟨o, h1, h2, _⟩ := (show h.IsTuple a items from x)
    cases j with
    | true => obtain ⟨o', h3, h4, _⟩ := (show h.IsTupleIter a b i from y); rw [h3] at h1; cases h1; rw [h4] at h2; simp at h2
    | false => obtain ⟨o', h3, h4, _⟩ := (show h.IsListIter a b i from y); rw [h3] at h1; cases h1; rw [h4] at h2; simp at h2
  | false =>
    obtain ⟨o, h1, h2, _⟩ := (show h.IsList a items from x)
    cases j with
    | true => obtain ⟨o', h3, h4, _⟩ := (show h.IsTupleIter a b i from y); rw [h3] at h1; cases h1; rw [h4] at h2; simp at h2
    | false => obtain ⟨o', h3, h4, _⟩ := (show h.IsListIter a b i from y); rw [h3] at h1; cases h1; rw [h4] at h2; simp at h2
theorem IsX.lt {k : Bool} {a : Addr} {items : Array Value} {h : Heap} (x : IsX k a items h) : a < h.objs.size := by
  cases k with
  | true => obtain ⟨o, h1, _⟩ := (show h.IsTuple a items from x); exact Heap.lt_size h1
  | false => obtain ⟨o, h1, _⟩ := (show h.IsList a items from x); exact Heap.lt_size h1
theorem SqX.same {K : PySem.W.Frag} {k : Bool} {H H' : Hp} {a : Addr} {xs : List V} (e : Same H H') (h : SqX K k H a xs) : SqX K k H' a xs := by
  cases k with
  | true => exact sqT_same e h
  | false =>
    rcases (show SqL K H a xs from h) with (h | ⟨o, h⟩) | h
    · exact .inl (.inl (e _ _ h))
    · exact .inl (.inr ⟨o, e _ _ h⟩)
    · exact .inr h
/-- the items at each turn in a new pair -/
def ItzX (G : Hp → Prop) (xs ys : List V) : It :=
  ⟨fun i H => G H ∧ i < xs.length ∧ i < ys.length, fun i H v H' => ∃ T x y, v = .ref T ∧ H T = none ∧ H' = upd H T (.tup [x, y]) ∧ xs[i]? = some x ∧ ys[i]? = some y, fun i H => G H ∧ i = min xs.length ys.length⟩
theorem turn_zipX {P : Program} {w : World} {K : PySem.W.Frag} {elts : List Expr} {kk : Nat} {tpos : Pos} {a b : Addr} {xs ys : List V} {N : Nat} (k j : Bool) (ha : a < N) (hb : b < N) :
    Turn P w K (.Tuple elts kk tpos) (ItzX (fun H => SqX K k H a xs ∧ SqX K j H b ys) xs ys) [N + 4, N + 2, N + 3, N, N + 1] (N + 4)
      (fun i h => IsZip h (N + 4) (N + 2) (N + 3) .none ∧ IsTupOf2 h (N + 2) (.ref N) (.ref (N + 1)) ∧ (∃ x y, IsTupOf2 h (N + 3) x y) ∧ ItAt k N a i h ∧ ItAt j (N + 1) b i h) where
  mem := by simp
  obj := fun i h st c hc => by
    obtain ⟨hz, hTI, ⟨x, y, hTO⟩, h1, h2⟩ := st
    have e' : c = N + 4 ∨ c = N + 2 ∨ c = N + 3 ∨ c = N ∨ c = N + 1 := by simpa using hc
    rcases e' with q | q | q | q | q
    · rw [q]; exact ⟨_, hz, fun v q => nomatch q⟩
    · rw [q]; exact ⟨_, hTI, fun v q => nomatch q⟩
    · rw [q]; exact ⟨_, hTO, fun v q => nomatch q⟩
    · rw [q]; exact h1.obj
    · rw [q]; exact h2.obj
  keep := fun i h h' st q => by
    obtain ⟨hz, hTI, ⟨x, y, hTO⟩, h1, h2⟩ := st
    exact ⟨q (N + 4) (by simp) _ hz, q (N + 2) (by simp) _ hTI, ⟨x, y, q (N + 3) (by simp) _ hTO⟩, h1.keep fun o z => q N (by simp) o z, h2.keep fun o z => q (N + 1) (by simp) o z⟩
  item := by
    intro X hP hw hK hc i pins s σ H E I hf st hg
    subst hP hw hK
    obtain ⟨hz, hTI, ⟨x0, y0, hTO⟩, h1, h2⟩ := st
    obtain ⟨⟨hqx, hqy⟩, hlx, hly⟩ := hg
    obtain ⟨its, rv, p⟩ := hqx.is I
    obtain ⟨its2, rv2, p2⟩ := hqy.is I
    have S : ZipSep2 (N + 4) (N + 2) (N + 3) N (N + 1) (N :: [a]) ((N + 1) :: [b]) := zip_sep2 (fun c hc => by rw [List.mem_singleton] at hc; subst hc; exact ha) (fun c hc => by rw [List.mem_singleton] at hc; subst hc; exact hb)
    have hl1 := rv.length
    have hl2 := rv2.length
    refine wpAny_pyNext_zipD2_item S (draws_x (A := X.A.in1) k (I.ok.hd hc) N a (p.ne h1) its.toArray) (draws_x (A := X.A.in1) j (I.ok.hd hc) (N + 1) b (p2.ne h2) its2.toArray) hz hTI hTO ⟨h1, p⟩ ⟨h2, p2⟩ (by rw [List.size_toArray]; omega) (by rw [List.size_toArray]; omega) fun u u2 h' tk e1 e2 z' TO' st1 st2 hT hsz hk => ?_
    have e1 : its[i]? = some u := by simpa using e1
    have e2 : its2[i]? = some u2 := by simpa using e2
    obtain ⟨x, hx⟩ : ∃ x, xs[i]? = some x := ⟨_, List.getElem?_eq_getElem hlx⟩
    obtain ⟨y, hy⟩ : ∃ y, ys[i]? = some y := ⟨_, List.getElem?_eq_getElem hly⟩
    obtain ⟨u', hu', ru⟩ := rv.get hx
    obtain ⟨u2', hu2', ru2⟩ := rv2.get hy
    rw [e1] at hu'; cases hu'
    rw [e2] at hu2'; cases hu2'
    have hzl : N + 4 < s.heap.objs.size := Heap.lt_size hz
    refine ⟨_, rfl, wpAny_letOwnedTupleGo_zip (s := { s with heap := h', toks := tk }) z' fun h'' z'' sb => ?_⟩
    have hT2 : h''.get? s.heap.objs.size = some { cls := .type "tuple", data := .seq #[u, u2] } := (sb.2 _ (Nat.ne_of_gt hzl)).trans hT
    have new : ObjOk X.prog X.w (upd H s.heap.objs.size (.tup [x, y])) h'' s.heap.objs.size (.tup [x, y]) :=
      ⟨by show 2 ≤ sizeLine; decide, [u, u2], .cons ru (.cons ru2 .nil), ⟨_, hT2, rfl, _, rfl⟩⟩
    have I1 : Inv X pins σ (upd H s.heap.objs.size (.tup [x, y])) { s with heap := h'', toks := tk } :=
      I.turnedNew (t' := tk) (ch := [N + 4, N + 2, N + 3, N, N + 1]) (fun c o hb q => (sb.2 c (fun q' => hb (by simp [q']))).trans (hk c o (fun q' => hb (by simp [q'])) (fun q' => hb (by simp [q'])) (fun q' => hb (by simp [q'])) (fun q' => hb (by simp [q'])) q)) hf (Nat.le_refl _) new
    refine ⟨.ref s.heap.objs.size, _, I1, rfl, ⟨_, x, y, rfl, I.hok.fresh (Nat.le_refl _), rfl, hx, hy⟩, ⟨z'', ?_, ⟨u, u2, ?_⟩, ?_, ?_⟩, fun c hcm => ?_⟩
    · exact (sb.2 _ S.TIz).trans (hk _ _ S.TIz S.TITO S.TIi1 S.TIi2 hTI)
    · exact (sb.2 _ S.TOz).trans TO'
    · exact st1.1.keep fun o q => (sb.2 _ S.zi1.symm).trans q
    · exact st2.1.keep fun o q => (sb.2 _ S.zi2.symm).trans q
    · have hlt : c < s.heap.objs.size := by
        have e' : c = N + 4 ∨ c = N + 2 ∨ c = N + 3 ∨ c = N ∨ c = N + 1 := by simpa using hcm
        have : c ≤ N + 4 := by rcases e' with q | q | q | q | q <;> rw [q] <;> first | exact Nat.le_refl _ | exact Nat.add_le_add_left (by decide) _ | exact Nat.le_add_right _ _
        exact Nat.lt_of_le_of_lt this hzl
      rw [upd_ne (Nat.ne_of_lt hlt)]
      exact (hf c hcm).1
  done := by
    intro X hP hw hK hc i pins s σ H E I hf st hg
    subst hP hw hK
    obtain ⟨hz, hTI, ⟨x0, y0, hTO⟩, h1, h2⟩ := st
    obtain ⟨⟨hqx, hqy⟩, hend⟩ := hg
    obtain ⟨its, rv, p⟩ := hqx.is I
    obtain ⟨its2, rv2, p2⟩ := hqy.is I
    have S : ZipSep2 (N + 4) (N + 2) (N + 3) N (N + 1) (N :: [a]) ((N + 1) :: [b]) := zip_sep2 (fun c hc => by rw [List.mem_singleton] at hc; subst hc; exact ha) (fun c hc => by rw [List.mem_singleton] at hc; subst hc; exact hb)
    have l1 := rv.length
    have l2 := rv2.length
    exact wpAny_pyNext_zipD2_end S (draws_x (A := X.A.in1) k (I.ok.hd hc) N a (p.ne h1) its.toArray) (draws_x (A := X.A.in1) j (I.ok.hd hc) (N + 1) b (p2.ne h2) its2.toArray) hz hTI hTO ⟨h1, p⟩ ⟨h2, p2⟩ (by rw [List.size_toArray]; omega) (by rw [List.size_toArray]; omega) (by rw [List.size_toArray, List.size_toArray]; omega)
      fun h' tk hk => ⟨rfl, I.turnedL (t' := tk) (ch := [N + 4, N + 2, N + 3, N, N + 1]) (fun c o hb q =>
      hk c o (fun q' => hb (by simp [q'])) (fun q' => hb (by simp [q'])) (fun q' => hb (by simp [q'])) (fun q' => hb (by simp [q'])) q) hf⟩
  self := fun A i s Q E st h => wpAny_pyIter_zip st.1 h
theorem walk_zipX {xs ys : List V} {G : Hp → Prop} : Walk (ItzX G xs ys) (min xs.length ys.length) G (YPair (fun i => xs[i]?) (fun i => ys[i]?)) := by
  refine ⟨fun i _ hi q => ⟨q, by omega, by omega⟩, fun _ q => ⟨q, rfl⟩, fun i H v H' _ q y => ?_⟩
  obtain ⟨T, x, z, h1, h2, h3, h4, h5⟩ := y
  exact ⟨T, x, z, h1, h2, h3, h4, h5⟩
def seqD : D → Option (List D)
  | .lst ds => some ds
  | .tup ds => some ds
  | _ => none
def zipM : List D → M (List D)
  | [d, e] => fun Q _ => match seqD d, seqD e with
    | some xs, some ys => Q (pairs xs ys)
    | _, _ => False
  | _ => fail
def iZp (l : CL) : CI := fun ρ => bnd (l ρ) zipM
theorem seq_of {K : PySem.W.Frag} {F : Hp} {v : V} {d : D} {ds : List D} (r : Rep K F v d) (h : seqD d = some ds) : ∃ (k : Bool) (a : Addr) (xs : List V), v = .ref a ∧ SqX K k F a xs ∧ RepL K F xs ds := by
  cases r <;> simp only [seqD, Option.some.injEq] at h <;> first | cases h | skip
  · rename_i a vs h1 rl; exact ⟨false, a, vs, rfl, SqL.of h1, rl⟩
  · rename_i a vs h1 rl; exact ⟨true, a, vs, rfl, h1, rl⟩
theorem zip_pair {K : PySem.W.Frag} {F : Hp} {xs ys : List V} {ds es : List D} (r : RepL K F xs ds) (r2 : RepL K F ys es) : ∀ i d, (pairs ds es)[i]? = some d → ∃ a b, d = .tup [a, b] ∧ (∀ x, (fun i : Nat => xs[i]?) i = some x → Rep K F x a) ∧ ∀ x, (fun i : Nat => ys[i]?) i = some x → Rep K F x b := by
  intro i d e
  obtain ⟨a, b, rfl, h1, h2⟩ := pairs_at e
  refine ⟨a, b, rfl, fun x hx => ?_, fun x hx => ?_⟩
  · obtain ⟨v, q1, q2⟩ := r.get h1
    have hx : xs[i]? = some x := hx
    rw [q1] at hx; cases hx; exact q2
  · obtain ⟨v, q1, q2⟩ := r2.get h2
    have hx : ys[i]? = some x := hx
    rw [q1] at hx; cases hx; exact q2
section
variable {X : Cx} {E : Xn → Prop} {e e2 : Expr} {cl : CL} {p pos tpos : Pos} {elts : List Expr} {kk : Nat}
theorem ri_zip (hg : Gl X "zip") (hm : X.mg "zip" = none) (ha : PA X [e, e2] (rdL X.K E 2 cl)) (hs : starEach [e, e2] X.env = (false, eval e X.env) :: starEach [e2] X.env) (hpl : (backTo pos (starEach [e2] X.env)).any (·.1) = false) :
    PI X (.Tuple elts kk tpos) (.Call (.Name "zip" p) [e, e2] [] pos) (rdI X.K E (iZp cl)) := by
  refine ⟨fun pins s σ H R I ⟨B, F0, F, ρ, Q, re, h, k⟩ => ?_⟩
  refine Call_ (ld_blt I hg hm PyProof.Rows.boot_zip (PyProof.Rows.callWith_type1 (thn (ha.run pos pins s σ H (fun vs H1 => ∃ F1 ds, Grow F H F1 H1 ∧ RepL X.K F1 vs ds ∧ vs.length = 2 ∧ zipM ds Q E) I
    ⟨B, F0, F, ρ, _, re, h, fun vs H1 F1 ds g1 r1 hn q => ⟨F1, ds, g1, r1, hn, q⟩⟩) ?_) hs hpl))
  rintro us s1 ⟨vs, H1, I1, r1, F1, ds, g1, rl, hn, q⟩
  obtain ⟨v, w, rfl⟩ := len2 hn
  obtain ⟨d, d2, rfl, rp, rp2⟩ := rl.two
  have q : (match seqD d, seqD d2 with | some xs, some ys => Q (pairs xs ys) | _, _ => False) := q
  split at q
  · rename_i ds es e1 e2
    obtain ⟨kx, a, xs, rfl, sx, rx⟩ := seq_of rp e1
    obtain ⟨ky, b, ys, rfl, sy, ry⟩ := seq_of rp2 e2
    cases r1 with
    | cons r rr =>
      cases rr with
      | cons r' rr =>
        cases rr
        cases r
        cases r'
        obtain ⟨its, rv, p1⟩ := (sx.same g1.fh).is I1
        obtain ⟨its2, rv2, p2⟩ := (sy.same g1.fh).is I1
        refine zip_begins2 (begins_x kx a its.toArray) (begins_x ky b its2.toArray) p1 p2 fun h' hz hTI hTO h1 h2 hsz hk => wpAny_pyIter_zip hz ?_
        have I2 : Inv X pins σ H1 { s1 with heap := h' } := I1.kept (t' := s1.toks) hk
        have t1 : ItAt kx s1.heap.objs.size a 0 h' := by
          cases kx with
          | true => exact ⟨_, h1, rfl, rfl⟩
          | false => exact ⟨_, h1, rfl, rfl⟩
        have t2 : ItAt ky (s1.heap.objs.size + 1) b 0 h' := by
          cases ky with
          | true => exact ⟨_, h2, rfl, rfl⟩
          | false => exact ⟨_, h2, rfl, rfl⟩
        refine ⟨_, _, _, _, H1, rfl, I2, turn_zipX (xs := xs) (ys := ys) kx ky p1.lt p2.lt, ⟨hz, hTI, ⟨_, _, hTO⟩, t1, t2⟩, fun c hcm => ?_, ?_⟩
        · have e' : c = s1.heap.objs.size + 4 ∨ c = s1.heap.objs.size + 2 ∨ c = s1.heap.objs.size + 3 ∨ c = s1.heap.objs.size ∨ c = s1.heap.objs.size + 1 := by simpa using hcm
          have hle : s1.heap.objs.size ≤ c := by
            rcases e' with z | z | z | z | z <;> rw [z] <;> first | exact Nat.le_refl _ | exact Nat.le_add_right _ _
          exact I1.fpOk hle (I1.hok.fresh hle)
        · refine k _ H1 F1 _ g1 (ItOk.of_pair (G := fun H => SqX X.K kx H a xs ∧ SqX X.K ky H b ys) (by rw [pairs_len, ← rx.length, ← ry.length]; exact walk_zipX) (fun H s => ⟨sx.same s, sy.same s⟩) (zip_pair rx ry)) q
  · exact q.elim
end
def iZip : IR := fun r g tg e => match tg, e with
  | .Tuple _ _ _, .Call (.Name x _) [a, b] [] _ => if spB g x "zip" = true then (lOf r g [a, b]).map iZp else none
  | _, _ => none
theorem iZip_ok : IrOk iZip := by
  intro r R X g E tg e c ok h
  unfold iZip at h
  split at h
  · split at h
    · rename_i hs
      obtain ⟨rfl, q1, q2⟩ := spB_is ok hs
      obtain ⟨l, h1, rfl⟩ := map_some h
      obtain ⟨h2, h3⟩ := lOf_ok (E := E) R ok h1
      rw [List.all_cons, Bool.and_eq_true] at h3
      exact ri_zip q1 q2 h2 (plain_star h3.1) (plains_pl h3.2)
    · cases h
  · cases h
end DL

namespace DL
open PySem L2 PySem.Spec PyProof.Rows

/-! ### sorted(set(a tuple of ints)) -/
def rSetI (w : World) (K : PySem.W.Frag) : List V → Hp → VK → Prop := fun xs H Q => ∃ (p : Addr) (ns : List Int), xs = [.ref p] ∧ SqT K H p (ns.map V.int) ∧ ns.length < 64 ∧
  ∀ c n, n ≤ ns.length → H c = none → Q (.ref c) (upd H c (SetO w c (fun j => decide (j ∈ ns)) n))
theorem cr_setI {X : Cx} (hc : X.calm = true) : CallR X (.type "set") (rSetI X.w X.K) := by
  intro pins s σ H xs us Q I r h
  obtain ⟨p, ns, rfl, hq, hl, q⟩ := h
  rw [Vals.ref1 r]
  obtain ⟨its, rv, pt, hz⟩ := I.tuple hq
  have hi : IntsAre its.toArray.toList ns := ints_of_vals rv
  refine call_set_tupI ns (I.ok.hd hc) (show s.heap.IsTuple p its.toArray from pt) hi (by unfold scanBound; omega) fun h' tk c R1 hcn k => ?_
  have hn : H s.heap.objs.size = none := I.hok.fresh (Nat.le_refl _)
  exact ⟨.ref _, upd H s.heap.objs.size (SetO X.w s.heap.objs.size _ c), I.laid (t' := tk) k (Nat.le_refl _) (setO_new R1), rfl, q _ c hcn hn⟩
def srtSetM : D → M (D × Bool)
  | .tup ds => fun Q _ => match intsD ds with
    | some ns => ns.length < 64 ∧ ∀ L : List Int, L.Pairwise (· < ·) → (∀ k, k ∈ L ↔ k ∈ ns) → Q (.lst (L.map .int), true)
    | none => False
  | _ => fail
def cSrtSet (a : CB) : CV := fun ρ => bnd (a ρ) srtSetM
theorem re_srtSet {X : Cx} {E : Xn → Prop} {e : Expr} {xa : CB} {p1 p2 q1 q2 : Pos} (hc : X.calm = true) (ha : PE X e (rdF X.K E xa)) (hg : Gl X "sorted") (hm : X.mg "sorted" = none) (hg2 : Gl X "set") (hm2 : X.mg "set" = none)
    (hs : starEach [e] X.env = [(false, eval e X.env)]) : PE X (.Call (.Name "sorted" p1) [.Call (.Name "set" p2) [e] [] q2] [] q1) (rdV X.K E (cSrtSet xa)) :=
  (pe_callB (cr_sortedSet hc) hg hm (by kernel_rfl) (pa_cons (pe_callTy (cr_setI hc) hg2 hm2 (by kernel_rfl) (pa_cons ha pa_nil hs) (by decide) (by decide) hs rfl) pa_nil rfl) (by decide) (by decide) rfl rfl).imp fun σ H Q' ⟨B, F0, F, ρ, Q, re, h, k⟩ =>
    ⟨B, F0, F, ρ, _, re, h, fun v H1 F1 d g1 r1 q1 => by
      unfold srtSetM at q1
      split at q1
      · rename_i ds
        split at q1
        · rename_i ns en
          cases r1 with
          | @tup p vs _ hp rl =>
            have ev := rl.ints en
            subst ev
            refine ⟨p, ns, rfl, sqT_same g1.fh hp, q1.1, fun c n hn hcn => ⟨c, _, n, rfl, upd_same, Nat.lt_of_le_of_lt hn q1.1, fun ns' p' hs hmem hlen hp' => ?_⟩⟩
            have ga := Grow.own g1.fh hcn (SetO X.w c (fun j => decide (j ∈ ns)) n)
            have gb := Grow.own ga.fh hp' (.lst (ns'.map V.int))
            refine k _ _ F1 (.lst (ns'.map .int), true) ((g1.trans ga).trans gb) (Val.own (d := .lst (ns'.map .int)) ((g1.trans ga).h.free hp') (ga.fh.free hp') (Own.mkL upd_same (repL_ints ns'))) ?_
            exact q1.2 ns' hs fun z => by rw [hmem z, decide_eq_true_eq]
        · exact q1.elim
      · exact q1.elim⟩
def vSrtSet : VR := fun r g e => match e with
  | .Call (.Name x _) [.Call (.Name y _) [a] [] _] [] _ => if (globB g x && globB g y && decide (x = "sorted") && decide (y = "set") && plainE a) = true then match g.gl.lookup x, g.gl.lookup y with
    | some (.bi _ _), some (.ty _ _) => (fOf r g a).map cSrtSet
    | _, _ => none else none
  | _ => none
theorem vSrtSet_ok : VrOk vSrtSet := by
  intro r R X g E e c ok h
  unfold vSrtSet at h
  split at h
  · split at h
    · rename_i hb
      simp only [Bool.and_eq_true, decide_eq_true_eq] at hb
      obtain ⟨⟨⟨⟨h1, h2⟩, rfl⟩, rfl⟩, hp⟩ := hb
      split at h
      · rename_i e1 e2
        obtain ⟨hm, _⟩ := ok.gl _ _ e1
        obtain ⟨hm2, _⟩ := ok.gl _ _ e2
        obtain ⟨x, h3, rfl⟩ := map_some h
        exact re_srtSet ok.calm (fOf_ok R ok h3) (globB_is ok h1).1 hm (globB_is ok h2).1 hm2 (plain_star hp)
      · cases h
    · cases h
  · cases h

/-! ### xs[::-1] -/
def revM : D → M (D × Bool)
  | .lst ds => ret (.lst ds.reverse, true)
  | _ => fail
def cRev (a : CB) : CV := fun ρ => bnd (a ρ) revM
theorem RepL.reverse {K : PySem.W.Frag} {H : Hp} : ∀ {vs : List V} {ds : List D}, RepL K H vs ds → RepL K H vs.reverse ds.reverse
  | _, _, .nil => .nil
  | _, _, .cons r t => by
    rw [List.reverse_cons, List.reverse_cons]
    exact (RepL.reverse t).append (.cons r .nil)
theorem re_rev {X : Cx} {E : Xn → Prop} {e : Expr} {xa : CB} {k : Nat} {p1 p2 p3 pos : Pos} (ha : PE X e (rdB X.K E xa)) : PE X (.Subscript e (.Slice none none (some (.UnaryOp .USub (.Constant (.int 1) k p1) p2)) p3) pos) (rdV X.K E (cRev xa)) :=
  (pe_revL ha).imp fun σ H Q' ⟨B, F0, F, ρ, Q, re, h, k⟩ => ⟨B, F0, F, ρ, _, re, h, fun v H1 F1 d g1 b1 q1 => by
    unfold revM at q1
    split at q1
    · obtain ⟨a, vs, rfl, ha, ra⟩ := b1.lst g1.fh
      exact ⟨a, vs, rfl, SqL.of ha, new_own g1.fh ra.reverse q1 fun w F2 H2 r g2 v2 q2 => k w H2 F2 r (g1.trans g2) (v2.back g1) q2⟩
    · exact q1.elim⟩
def vRev : VR := fun r g e => match e with
  | .Subscript a (.Slice none none (some (.UnaryOp .USub (.Constant (.int 1) _ _) _)) _) _ => (bOf r g a).map cRev
  | _ => none
theorem vRev_ok : VrOk vRev := by
  intro r R X g E e c ok h
  unfold vRev at h
  split at h
  · obtain ⟨x, h1, rfl⟩ := map_some h
    exact re_rev (bOf_ok R ok h1)
  · cases h

/-! ### what is one's own, given out -/
def sRetOwn : SR := fun r g st => match st with
  | .Return (some (.Name x p)) _ => if g.ro = true then match slotOf g x with
    | some i => if i ∈ g.own then some (sRetO i) else (r.v g (.Name x p)).map sRetF
    | none => none else none
  | .Return (some e) _ => if g.ro = true then (r.v g e).map sRetF else none
  | _ => none
theorem sRetOwn_ok : SrOk sRetOwn := by
  intro r R X g E st c ok hp h
  unfold sRetOwn at h
  split at h
  · split at h
    · split at h
      · rename_i i hi
        split at h
        · cases h
          obtain ⟨h1, h2, h3, h4⟩ := slotOf_is hi
          exact rs_retO (by rw [ok.N]; exact h1) (by rw [ok.sc]; exact h2) h3 h4
        · obtain ⟨x, h1, rfl⟩ := map_some h
          exact rs_retF (R.v ok h1)
      · cases h
    · cases h
  · split at h
    · obtain ⟨x, h1, rfl⟩ := map_some h
      exact rs_retF (R.v ok h1)
    · cases h
  · cases h

/-! ### two clauses -/
/-- what a target leaves of one's own -/
def GSh (sl : List Nat) (g : CG) : Prop := ∀ d ρ Q E, g d ρ Q E → g d ρ (fun ρ' => Q ρ' ∧ ∀ i d z, ρ'[i]? = some (.ow d z) → i ∉ sl ∧ ρ[i]? = some (.ow d z)) E
def GsSh (sl : List Nat) (g : List D → Env → M Env) : Prop := ∀ d ρ Q E, g d ρ Q E → g d ρ (fun ρ' => Q ρ' ∧ ∀ i d z, ρ'[i]? = some (.ow d z) → i ∉ sl ∧ ρ[i]? = some (.ow d z)) E
theorem gsh_mono {g : CG} (hm : ∀ d ρ (Q Q' : Env → Prop) E, (∀ ρ, Q ρ → Q' ρ) → g d ρ Q E → g d ρ Q' E) : True := trivial
def GMo (g : CG) : Prop := ∀ d ρ (Q Q' : Env → Prop) E, (∀ ρ, Q ρ → Q' ρ) → g d ρ Q E → g d ρ Q' E
def GsMo (g : List D → Env → M Env) : Prop := ∀ d ρ (Q Q' : Env → Prop) E, (∀ ρ, Q ρ → Q' ρ) → g d ρ Q E → g d ρ Q' E
theorem gNm_sh (i : Nat) : GSh [i] (gNm i) ∧ GMo (gNm i) := by
  refine ⟨fun d ρ Q E h => ⟨h, fun j e z hj => ?_⟩, fun d ρ Q Q' E hq h => hq _ h⟩
  rcases set_at hj with ⟨_, _, q⟩ | ⟨hn, q⟩
  · cases q
  · exact ⟨by rw [List.mem_singleton]; exact hn, q⟩
theorem gsNil_sh : GsSh [] gsNil ∧ GsMo gsNil := by
  refine ⟨fun d ρ Q E h => ?_, fun d ρ Q Q' E hq h => ?_⟩
  · cases d with
    | nil => exact ⟨h, fun i e z q => ⟨by simp, q⟩⟩
    | cons _ _ => exact (show False from h).elim
  · cases d with
    | nil => exact hq _ h
    | cons _ _ => exact (show False from h).elim
theorem gsCons_sh {sl sl2 : List Nat} {g : CG} {gs : List D → Env → M Env} (h1 : GSh sl g ∧ GMo g) (h2 : GsSh sl2 gs ∧ GsMo gs) : GsSh (sl ++ sl2) (gsCons g gs) ∧ GsMo (gsCons g gs) := by
  refine ⟨fun d ρ Q E h => ?_, fun d ρ Q Q' E hq h => ?_⟩
  · cases d with
    | nil => exact (show False from h).elim
    | cons d ds =>
      have h : g d ρ (fun ρ' => gs ds ρ' Q E) E := h
      refine h1.2 d ρ _ _ E (fun ρ' q => ?_) (h1.1 d ρ _ E h)
      refine h2.2 ds ρ' _ _ E (fun ρ2 q2 => ⟨q2.1, fun i e z hz => ?_⟩) (h2.1 ds ρ' Q E q.1)
      obtain ⟨n2, w2⟩ := q2.2 i e z hz
      obtain ⟨n1, w1⟩ := q.2 i e z w2
      exact ⟨by rw [List.mem_append]; rintro (z | z); exact n1 z; exact n2 z, w1⟩
  · cases d with
    | nil => exact (show False from h).elim
    | cons d ds => exact h1.2 d ρ _ _ E (fun ρ' q => h2.2 ds ρ' _ _ E hq q) h
theorem gTp_sh {n : Nat} {sl : List Nat} {gs : List D → Env → M Env} (h : GsSh sl gs ∧ GsMo gs) : GSh sl (gTp n gs) ∧ GMo (gTp n gs) := by
  refine ⟨fun d ρ Q E q => ?_, fun d ρ Q Q' E hq q => ?_⟩
  · cases d with
    | tup ds => exact ⟨q.1, h.1 ds ρ Q E q.2⟩
    | _ => exact (show False from q).elim
  · cases d with
    | tup ds => exact ⟨q.1, h.2 ds ρ _ _ E hq q.2⟩
    | _ => exact (show False from q).elim
theorem gOf_sh {g : Sg} : ∀ {n : Nat} {e : Expr} {p : List Nat × CG}, gOf g n e = some p → GSh p.1 p.2 ∧ GMo p.2
  | 0, _, _, h => by simp [gOf] at h
  | n + 1, e, p, h => by
    unfold gOf at h
    split at h
    · split at h
      · split at h
        · rename_i i hi; cases h; exact gNm_sh i
        · cases h
      · cases h
    · rename_i es k tp
      split at h
      · rename_i hp
        split at h
        · rename_i s c hf
          cases h
          have main : ∀ (es : List Expr) (s : List Nat) (c : List D → Env → M Env), (es.foldr (fun e acc => match gOf g n e, acc with
              | some (s, c), some (s2, c2) => some (s ++ s2, gsCons c c2)
              | _, _ => none) (some ([], gsNil)) : Option (List Nat × (List D → Env → M Env))) = some (s, c) → GsSh s c ∧ GsMo c := by
            intro es
            induction es with
            | nil => intro s c h; cases h; exact gsNil_sh
            | cons e es ih =>
              intro s c h
              rw [List.foldr_cons] at h
              split at h
              · rename_i s1 c1 s2 c2 h1 h2
                cases h
                exact gsCons_sh (gOf_sh (p := (s1, c1)) h1) (ih _ _ h2)
              · cases h
          exact gTp_sh (main es s c hf)
        · cases h
      · cases h
    · cases h
theorem REnv.extChg {K : PySem.W.Frag} {B F0 F H : Hp} {σ : L2.St} {ρ : Env} (re : REnv K B F0 F H σ ρ) {p : Addr} {o : HO} (hB : B p = none) (hF : F p = none) (ne : ∀ (i : Nat) (d : D) (z : Option Addr), ρ[i]? = some (Cell.ow d z) → σ[i]? ≠ some (some (V.ref p))) : REnv K B F0 F (upd H p o) σ ρ where
  bh := fun b u z => by rw [upd_ne (ne_of_none z hB)]; exact re.bh b u z
  f0 := re.f0
  fh := fun b u z => by rw [upd_ne (ne_of_none z hF)]; exact re.fh b u z
  fr := re.fr
  len := re.len
  cell := fun i c e => by
    obtain ⟨w, w1, w2⟩ := re.cell i c e
    refine ⟨w, w1, ?_⟩
    cases c with
    | no => trivial
    | sh d => exact w2
    | ow d z =>
      obtain ⟨q, rfl, q1, q2, q3, q4⟩ := w2
      exact ⟨q, rfl, q1, q2, q3.upd_ne (fun h => by subst h; exact ne i d z e w1), q4⟩
  dis := re.dis
def lcA (g : CG) (t : CT) (e : CB) (ρ : Env) : List D → List D → M (List D)
  | [], acc => ret acc
  | d :: ds, acc => bnd (g d ρ) fun ρ' => bnd (t ρ') fun b => if b = true then bnd (e ρ') fun x Q E => acc.length < sizeLine ∧ lcA g t e ρ ds (acc ++ [x]) Q E else lcA g t e ρ ds acc
def lcM2 (g : CG) (t : CT) (ci : CI) (g1 : CG) (t1 : CT) (vs1 : List Nat) (e : CB) (ρ : Env) : List D → List D → M (List D)
  | [], acc => ret acc
  | d :: ds, acc => bnd (g d ρ) fun ρ' => bnd (t ρ') fun b => if b = true then bnd (ci ρ') fun ds1 => bnd (lcA g1 t1 e (wipeE ρ' vs1) ds1 acc) fun acc' => lcM2 g t ci g1 t1 vs1 e ρ ds acc' else lcM2 g t ci g1 t1 vs1 e ρ ds acc
def cLc2 (vs vs1 : List Nat) (it : CI) (g : CG) (t : CT) (ci : CI) (g1 : CG) (t1 : CT) (e : CB) : CV := fun ρ => bnd (it ρ) fun ds Q E => lcM2 g t ci g1 t1 vs1 e (wipeE ρ vs) ds [] (fun r => Q (.lst r, true)) E
theorem wipeE_ow {ρ : Env} {i : Nat} {d : D} {z : Option Addr} : ∀ {vs : List Nat}, (wipeE ρ vs)[i]? = some (.ow d z) → i ∉ vs ∧ ρ[i]? = some (.ow d z)
  | [], h => ⟨by simp, h⟩
  | v :: vs, h => by
    rcases set_at (show ((wipeE ρ vs).set v .no)[i]? = _ from h) with ⟨_, _, q⟩ | ⟨hn, q⟩
    · cases q
    · obtain ⟨a, b⟩ := wipeE_ow q
      exact ⟨by rw [List.mem_cons]; rintro (z | z); exact hn z; exact a z, b⟩
theorem lc2_imp {K : PySem.W.Frag} {E : Xn → Prop} {ci c1 : CI} {g g1 : CG} {t t1 : CT} {xe : CB} {vs : List Nat} {sl sl1 : List Nat} {σ : L2.St} {H : Hp} {Q' : VK} (hsl : ∀ i ∈ sl, i ∈ vs) (gsh : GSh sl g) (h : rdV K E (cLc2 vs sl1 ci g t c1 g1 t1 xe) σ H Q') :
    tLc2 (rdI K E ci) (rdG K E sl g) (rdT K E t) (rdI K E c1) (rdG K E sl1 g1) (rdT K E t1) (rdF K E xe) vs sl1 σ H Q' := by
  obtain ⟨B, F0, F, ρ, Q, re, h, k⟩ := h
  refine ⟨B, F0, F, ρ, _, re, h, fun J H1 F1 ds gr1 io q => ?_⟩
  intro Dn hD
  have re1 := re.grow gr1
  have hBD : B Dn = none := re1.bh.free hD
  refine ⟨fun i m H2 => m = ds.length - i ∧ i ≤ ds.length ∧ ∃ F2 acc out, Grow F1 H1 F2 H2 ∧ F2 Dn = none ∧ H2 Dn = some (.lst acc) ∧ RepL K F2 acc out ∧ lcM2 g t c1 g1 t1 sl1 xe (wipeE ρ vs) (ds.drop i) out (fun r => Q (.lst r, true)) E,
    ⟨ds.length, by simp, Nat.zero_le _, F1, [], [], Grow.own gr1.fh hD _, gr1.fh.free hD, upd_same, .nil, q⟩, ?_⟩
  rintro i m H2 ⟨rfl, hi, F2, acc, out, g2, fD, hDn, ra, q2⟩
  obtain ⟨i1, i2⟩ := io F2 H2 g2.f g2.fh
  have st : ∀ {Fa Ha F' H' : Hp} {acc : List V}, Fa Dn = none → Ha Dn = some (.lst acc) → Grow Fa Ha F' H' → F' Dn = none ∧ H' Dn = some (.lst acc) := fun {Fa Ha F' H' acc} hf hh gg => by
    refine ⟨?_, gg.h _ _ hh⟩
    cases z : F' Dn with
    | none => rfl
    | some u =>
      rcases gg.nw Dn u z with w | w
      · rw [hf] at w; cases w
      · rw [hh] at w; cases w
  -- the new list grows
  have put : ∀ {F' H' : Hp} {o : HO}, Grow F1 H1 F' H' → F' Dn = none → Grow F1 H1 F' (upd H' Dn o) := fun {F' H' o} gg s1 => by
    refine ⟨fun b u z => ?_, gg.f, fun b u z => ?_, gg.nw⟩
    · rw [upd_ne (ne_of_none z hD)]; exact gg.h b u z
    · rw [upd_ne (ne_of_none z s1)]; exact gg.fh b u z
  by_cases hlt : i < ds.length
  · have e : ds[i]? = some ds[i] := List.getElem?_eq_getElem hlt
    obtain ⟨go, yl⟩ := i2 i _ e
    rw [List.drop_eq_getElem_cons hlt] at q2
    refine .inr ⟨go, fun H' => ∃ F2 acc out, Grow F1 H1 F2 H' ∧ F2 Dn = none ∧ H' Dn = some (.lst acc) ∧ RepL K F2 acc out ∧ lcM2 g t c1 g1 t1 sl1 xe (wipeE ρ vs) (ds.drop (i + 1)) out (fun r => Q (.lst r, true)) E,
      fun H' ⟨F3, a3, o3, w⟩ => ⟨ds.length - (i + 1), by omega, rfl, hlt, F3, a3, o3, w⟩, fun x H3 y => ?_⟩
    obtain ⟨F3, g3, r3⟩ := yl x H3 y
    have re3 := (re.grow ((gr1.trans g2).trans g3)).wipe vs
    refine ⟨B, F0, F3, _, _, _, re3, r3, gsh _ _ _ _ q2, fun σ4 ρ4 l4 k4 re4 q4 => ⟨?_, ?_⟩⟩
    · rw [← wipe_idem (σ := σ)]
      exact wipe_eq l4 fun j hj => k4 j fun z => hj (hsl j z)
    · obtain ⟨q4, own4⟩ := q4
      -- nobody's own is the new list
      have ne4 : ∀ (j : Nat) (d : D) (z : Option Addr), ρ4[j]? = some (Cell.ow d z) → σ4[j]? ≠ some (some (V.ref Dn)) := fun j d z hj hs => by
        obtain ⟨n1, w1⟩ := own4 j d z hj
        obtain ⟨n2, w2⟩ := wipeE_ow w1
        rw [k4 j n1, wipe_out n2] at hs
        obtain ⟨v, h1, p, rfl, _, _, h2, _⟩ := re1.cell j _ w2
        rw [hs] at h1
        cases h1
        obtain ⟨u, hu⟩ := h2.there
        rw [hD] at hu; cases hu
      refine ⟨B, F0, F3, ρ4, _, re4, q4, fun b H5 F5 g5 q5 => ?_⟩
      have g25 := g2.trans (g3.trans g5)
      obtain ⟨s5, t5⟩ := st (st fD hDn g3).1 (st fD hDn g3).2 g5
      have ra5 := ra.mono (g3.trans g5).f
      cases b with
      | false =>
        show ∃ F2 acc out, _
        exact ⟨F5, acc, out, g25, s5, t5, ra5, q5⟩
      | true =>
        show rdI K E c1 σ4 H5 _
        refine ⟨B, F0, F5, ρ4, _, re4.grow g5, (show bnd (c1 ρ4) _ _ E from q5), fun J1 H6 F6 es g6 io1 q6 => ?_⟩
        obtain ⟨s6, t6⟩ := st s5 t5 g6
        refine ⟨fun j m H7 => m = es.length - j ∧ j ≤ es.length ∧ ∃ F7 acc out, Grow F1 H1 F7 H7 ∧ Same F6 F7 ∧ REnv K B F0 F7 H7 σ4 ρ4 ∧ F7 Dn = none ∧ H7 Dn = some (.lst acc) ∧ RepL K F7 acc out ∧ lcA g1 t1 xe (wipeE ρ4 sl1) (es.drop j) out (fun acc' => lcM2 g t c1 g1 t1 sl1 xe (wipeE ρ vs) (ds.drop (i + 1)) acc' (fun r => Q (.lst r, true)) E) E,
          ⟨es.length, by simp, Nat.zero_le _, F6, acc, out, g25.trans g6, Same.refl _, (re4.grow g5).grow g6, s6, t6, ra5.mono g6.f, q6⟩, ?_⟩
        rintro j m H7 ⟨rfl, hj, F7, acc7, out7, g7, sm7, re7, s7, t7, ra7, q7⟩
        obtain ⟨k1, k2⟩ := io1 F7 H7 sm7 g7.fh
        by_cases hjl : j < es.length
        · obtain ⟨go1, yl1⟩ := k2 j _ (List.getElem?_eq_getElem hjl)
          rw [List.drop_eq_getElem_cons hjl] at q7
          refine .inr ⟨go1, fun H' => ∃ F7 acc out, Grow F1 H1 F7 H' ∧ Same F6 F7 ∧ REnv K B F0 F7 H' σ4 ρ4 ∧ F7 Dn = none ∧ H' Dn = some (.lst acc) ∧ RepL K F7 acc out ∧ lcA g1 t1 xe (wipeE ρ4 sl1) (es.drop (j + 1)) out (fun acc' => lcM2 g t c1 g1 t1 sl1 xe (wipeE ρ vs) (ds.drop (i + 1)) acc' (fun r => Q (.lst r, true)) E) E,
            fun H' ⟨F8, a8, o8, w⟩ => ⟨es.length - (j + 1), by omega, rfl, hjl, F8, a8, o8, w⟩, fun x H8 y => ?_⟩
          obtain ⟨F8, g8, r8⟩ := yl1 x H8 y
          have re8 := (re7.grow g8).wipe sl1
          refine ⟨B, F0, F8, _, _, _, re8, r8, q7, fun σ9 ρ9 l9 k9 re9 q9 => ⟨?_, B, F0, F8, ρ9, _, re9, q9, fun b H10 F10 g10 q10 => ?_⟩⟩
          · rw [← wipe_idem (σ := σ4)]
            exact wipe_eq l9 fun j hj => k9 j hj
          · have g810 := g8.trans g10
            obtain ⟨s10, t10⟩ := st s7 t7 g810
            cases b with
            | false =>
              show ∃ F2 acc out, _
              exact ⟨F10, acc7, out7, g7.trans g810, sm7.trans g810.f, re7.grow g810, s10, t10, ra7.mono g810.f, q10⟩
            | true =>
              show rdF K E xe σ9 H10 _
              refine ⟨B, F0, F10, ρ9, _, re9.grow g10, (show bnd (xe ρ9) (fun x Q E => out7.length < sizeLine ∧ lcA g1 t1 xe (wipeE ρ4 sl1) (List.drop (j + 1) es) (out7 ++ [x]) Q E) _ E from q10), fun v H11 F11 d g11 r11 q11 => ?_⟩
              have ga := g810.trans g11
              obtain ⟨s11, t11⟩ := st s7 t7 ga
              have q11 : out7.length < sizeLine ∧ lcA g1 t1 xe (wipeE ρ4 sl1) (es.drop (j + 1)) (out7 ++ [d]) _ E := q11
              refine ⟨acc7, t11, by rw [ra7.length]; exact q11.1, F11, _, out7 ++ [d], put (g7.trans ga) s11, sm7.trans ga.f, (re7.grow ga).extChg hBD s11 ne4, s11, upd_same, (ra7.mono ga.f).append (.cons r11 .nil), q11.2⟩
        · have e : j = es.length := by omega
          subst e
          rw [List.drop_length] at q7
          exact .inl ⟨k1, F7, acc7, out7, g7, s7, t7, ra7, q7⟩
  · have e : i = ds.length := by omega
    subst e
    rw [List.drop_length] at q2
    have q3 : Q (.lst out, true) := q2
    exact .inl ⟨i1, k _ H2 F2 (.lst out, true) (gr1.trans g2) (Val.own (gr1.h.free hD) fD ⟨acc, hDn, ra⟩) q3⟩
def vLc2 : VR := fun r g e => match e with
  | .ListComp elt [⟨tg, iter, ifs, 0⟩, ⟨tg1, iter1, ifs1, 0⟩] scope _ =>
    match lcOf r g elt tg iter ifs scope with
    | some d => if plainE iter1 = true then match gOf (blkSg g scope) 6 tg, r.i (blkSg g scope) tg1 iter1, gOf (blkSg g scope) 6 tg1, testsOf r (blkSg g scope) ifs1 with
      | some (sl, gg), some c1, some (sl1, g1), some t1 => if ((sl.all fun i => decide (i ∈ (ownOf g scope).map (·.2))) && (sl1.all fun i => decide (i ∈ (ownOf g scope).map (·.2)))) = true then some (cLc2 ((ownOf g scope).map (·.2)) sl1 d.ci gg d.t c1 g1 t1 d.xe) else none
      | _, _, _, _ => none else none
    | none => none
  | _ => none
theorem lcOf_own {r : Rec} {g : Sg} {elt tg iter : Expr} {ifs : List Expr} {scope : Scope} {d : LcD} (h : lcOf r g elt tg iter ifs scope = some d) : d.own = ownOf g scope ∧ (blkSg g scope).st.all (stB (relS scope g.sc) scope) = true ∧ (blkSg g scope).sc.kind = .function := by
  unfold lcOf at h
  split at h
  · rename_i hb
    rw [Bool.and_eq_true, Bool.and_eq_true, Bool.and_eq_true] at hb
    obtain ⟨⟨⟨b1, b2⟩, b3⟩, b4⟩ := hb
    split at h
    · split at h
      · cases h; exact ⟨rfl, b2, of_decide_eq_true b4⟩
      · cases h
    · cases h
  · cases h
theorem vLc2_ok : VrOk vLc2 := by
  intro r R X g E e c ok h
  unfold vLc2 at h
  split at h
  · rename_i elt tg iter ifs tg1 iter1 ifs1 scope pos
    split at h
    · rename_i d hd
      have L := lcOf_ok (E := E) R ok hd
      obtain ⟨eo, b2, b4⟩ := lcOf_own hd
      split at h
      · rename_i hpl
        split at h
        · rename_i sl gg c1 sl1 g1 t1 h0 h1 h2 h3
          split at h
          · rename_i hs
            cases h
            rw [Bool.and_eq_true] at hs
            have bk := blkSg_ok ok b2 b4
            have hsl : ∀ i ∈ sl, i ∈ (ownOf g scope).map (·.2) := fun i hi => of_decide_eq_true (List.all_eq_true.mp hs.1 i hi)
            have hsl1 : ∀ i ∈ sl1, i ∈ (ownOf g scope).map (·.2) := fun i hi => of_decide_eq_true (List.all_eq_true.mp hs.2 i hi)
            have tests : ∀ (s : Shared) (H : Hp) (C : Addr) (cl : List (Str × Addr)) (fp : List Addr), PTs (X.blk s H scope (compEnvC scope cl C X.env) fp) ifs1 (rdT X.K E t1) := fun s H C cl fp => by
              unfold testsOf at h3
              split at h3
              · cases h3; exact rts_nil
              · exact pts_one (R.t (bk s H C cl fp) h3)
              · cases h3
            have hok := L.ok
            rw [eo] at hok
            exact (pe_lc2 (vs1 := sl1) ok.calm (by rw [ok.N]; exact ok.nd) L.hi hok hsl1 (fun s H C cl fp => gOf_ok (p := (sl, gg)) (bk s H C cl fp) h0) L.ht (fun s H C cl fp => R.i (bk s H C cl fp) h1) (fun s H C cl fp => gOf_ok (p := (sl1, g1)) (bk s H C cl fp) h2) tests L.he L.hs (fun env x => plain_set hpl x)).imp
              fun σ H Q' h => lc2_imp hsl (gOf_sh (p := (sl, gg)) h0).1 h
          · cases h
        · cases h
      · cases h
    · cases h
  · cases h
end DL

namespace DL
open PySem L2 PySem.Spec PyProof.Rows

/-! ### sorted(a dict whose keys are ints), of any length -/
theorem call_sortedDA {X : Cx} (hcalm : X.calm = true) : CallR X (.builtin "sorted") (fun xs H Q => ∃ (a : Addr) (kvs : List (Key × V)) (ks : List Int), xs = [.ref a] ∧ Rd H a (.dK kvs) ∧ kvs.map (·.1) = ks.map Sum.inl ∧
    ∀ (ys : List Int) (p : Addr), ys.Perm ks → ys.Pairwise (· ≤ ·) → H p = none → Q (.ref p) (upd H p (.lst (ys.map V.int)))) := by
  intro pins s σ H xs us Q I r q
  obtain ⟨a, kvs, ks, ex, hd, hks, q⟩ := q
  subst ex
  obtain ⟨u, eu, rx⟩ := vals1 r
  subst eu
  cases rx
  obtain ⟨z, lo, vs, rel, dd⟩ := dk_rd I.hok hd
  obtain ⟨ep, hat⟩ := dd.dictAt
  have hkeys : vs.map (·.1) = ks.map Sum.inl := rel.keys.symm.trans hks
  have hl : vs.length = ks.length := by
    have e := congrArg List.length hkeys
    rw [List.length_map, List.length_map] at e
    exact e
  have hl2 : kvs.length = ks.length := by
    have e := congrArg List.length hks
    rw [List.length_map, List.length_map] at e
    exact e
  have h16 : vs.length ≤ sizeLine := by rw [hl, ← hl2]; exact z
  refine Calls.call_function_entry PyProof.Rows.kind_sorted PyProof.Rows.plain_sorted PyProof.Rows.entry_sorted (PyProof.Rows.args_sorted1 _) ?_
  unfold Builtin.«sorted»
  refine wpAny_bind (m := checkCount "sorted" 1 1 _) (wpAny_pure ?_)
  refine wpAny_bind (PySem.W.kdu_collect (A := X.A.in1) (PySem.W.kdl_dict (knd := mixKind X.prog X.w) (kvs := vs) (ep := ep) lo) (I.ok.hd hcalm) hat h16 fun h' tk acc hk hacc => ?_)
  have hal : acc.toList.length = ks.length := by rw [Array.length_toList, hacc.1, hl]
  have hS : IntsAre acc.toList ks := ints_each hal fun j v e => by
    obtain ⟨k, x, e1, e2⟩ := hacc.2 j v (by rw [← Array.getElem?_toList]; exact e)
    have e3 : (vs.map (·.1))[j]? = some k := by rw [List.getElem?_map, e1]; rfl
    rw [hkeys, List.getElem?_map] at e3
    cases e4 : ks[j]? with
    | none => rw [e4] at e3; cases e3
    | some y =>
      rw [e4] at e3
      have e5 : Sum.inl y = k := Option.some.inj e3
      subst e5
      rcases keyIs_shape (show keyIs (Sum.inl y) v = true from e2) with ⟨i, t, ek, ev⟩ | ⟨z, t, ek, ev⟩
      · cases ek
        exact ⟨y, t, rfl, ev⟩
      · cases ek
  have I1 : Inv X pins σ H { s with heap := h', toks := tk } := I.kept hk
  have hzL : acc.toList.length ≤ sizeLine := by rw [hal, ← hl]; exact h16
  refine wpAny_bind (wpAny_newList ?_ hzL)
  have hoL : (h'.push (seqObj "list" acc.toList.toArray 0)).get? h'.objs.size = some (seqObj "list" acc.toList.toArray 0) := Heap.get?_push_size _ rfl
  show wpAny _ _ _ _ _ { s with heap := h'.push (seqObj "list" acc.toList.toArray 0), toks := tk }
  refine wpAny_bind (wpAny_holding (wpAny_call_entry PyProof.Rows.slot_list_sort ⟨_, hoL, rfl⟩ PyProof.Rows.entry_list_sort
    (SrtO.list_sort_ord (s := { s with heap := h'.push (seqObj "list" acc.toList.toArray 0), toks := tk }) SrtO.swo_int hoL hzL (fun h2 => SrtO.ints_sortable hS h2) fun out g1 g2 => ⟨_, rfl, ?_⟩) (PyProof.Rows.args_list_sort _)))
  obtain ⟨k1, k2, k3⟩ := SrtO.ints_out hS g1 g2
  obtain ⟨e', he'⟩ := PyProof.Rows.sortedHeap_at (vs := acc.toList) (out := out.toArray) hoL
  have hlen : ((out.map SrtO.iv).map V.int).length ≤ sizeLine := by
    rw [List.length_map, k2.length_eq, ← hl]
    exact h16
  refine wpAny_pure ⟨_, rfl, .ref h'.objs.size, upd H h'.objs.size (.lst ((out.map SrtO.iv).map V.int)), I1.laid (t' := tk) (fun b u e => ?_) (Nat.le_refl _)
    (show ObjOk X.prog X.w _ _ _ (.lst ((out.map SrtO.iv).map V.int)) from ⟨hlen, out, e', vals_of_ints k1, he'⟩), rfl, q _ _ k2 k3 (I1.hok.fresh (Nat.le_refl _))⟩
  have hb : b < h'.objs.size := Heap.lt_size e
  rw [PyProof.Rows.sortedHeap_old (Nat.ne_of_lt hb) (by rw [size_push']; exact Nat.lt_succ_of_lt hb)]
  exact Heap.get?_push_of_some _ e
def keysI : List (D × D) → Option (List Int)
  | [] => some []
  | (.int i, _) :: r => (keysI r).map (i :: ·)
  | _ => none
theorem keysI_is {K : PySem.W.Frag} {H : Hp} : ∀ {kvs : List (D × D)} {ks : List (Key × V)} {ns : List Int}, RepK K H ks kvs → keysI kvs = some ns → ks.map (·.1) = ns.map Sum.inl
  | [], _, _, .nil, e => by simp only [keysI, Option.some.injEq] at e; subst e; rfl
  | p :: kvs, ks, ns, r, e => by
    cases r with
    | @cons k v d ks kvs r t =>
      cases k with
      | inl i =>
        have e : (keysI kvs).map (i :: ·) = some _ := e
        cases q : keysI kvs with
        | none => rw [q] at e; cases e
        | some ns => rw [q] at e; cases e; rw [List.map_cons, List.map_cons, keysI_is t q]
      | inr z => exact absurd (show (none : Option (List Int)) = some _ from e) (by simp)
def sortedM2 : List D → M (D × Bool)
  | [.lst ds] => fun Q _ => match intsD ds with | some ns => Q (.lst ((srtI ns).map D.int), true) | none => False
  | [.dct kvs] => fun Q _ => match keysI kvs with | some ns => Q (.lst ((srtI ns).map D.int), true) | none => False
  | _ => fail
theorem b_sorted2 {X : Cx} (hc : X.calm = true) : CallR X (.builtin "sorted") (rcM X.K sortedM2) := by
  intro pins s σ H xs us Q I r h
  obtain ⟨F, ds, Q2, E, sm, b, h, k⟩ := h
  unfold sortedM2 at h
  split at h
  · obtain ⟨v, rfl, b1⟩ := b.one
    obtain ⟨a, vs, rfl, ha, ra⟩ := b1.lst sm
    split at h
    · rename_i ns e
      cases ra.ints e
      refine cr_sortedI pins s σ H _ us Q I r ⟨_, ns, rfl, SqL.of ha, fun ns' p pm so hp => ?_⟩
      have e2 : ns' = srtI ns := sorted_one (pm.trans (srtI_perm ns).symm) so (srtI_sorted ns)
      rw [e2]
      exact new_own sm (repL_ints _) h k p hp
    · exact h.elim
  · rename_i kvs
    obtain ⟨v, rfl, b1⟩ := b.one
    split at h
    · rename_i ns e
      have fin : ∃ a ks, v = V.ref a ∧ H a = some (.dK ks) ∧ RepK X.K F ks kvs := by
        rcases b1 with b | ⟨p, rfl, ks, h, r⟩
        · cases b with
          | dct h r => exact ⟨_, _, rfl, sm _ _ h, r⟩
        · exact ⟨p, ks, rfl, h, r⟩
      obtain ⟨a, ks, rfl, ha, ra⟩ := fin
      refine call_sortedDA hc pins s σ H _ us Q I r ⟨a, ks, ns, rfl, .inl ha, keysI_is ra e, fun ns' p pm so hp => ?_⟩
      have e2 : ns' = srtI ns := sorted_one (pm.trans (srtI_perm ns).symm) so (srtI_sorted ns)
      rw [e2]
      exact new_own sm (repL_ints _) h k p hp
    · exact h.elim
  · exact h.elim

/-! ### the rules in use -/
def rules : Rules where
  v := [vName, vConst, vBin, vBool, vCmp, vRev, vSeq, vIsi, vLRg, vBest, vSrtSet, vCall, vLc, vLc2]
  i := [iRange, iEnum, iZip, iPlain]
  s := [sRetOwn, sExpr, sName, sPair, sTup, sTup2, sSub, sFlow]
theorem rules_ok : RulesOk rules where
  v := fun f hf => by
    simp only [rules, List.mem_cons, List.not_mem_nil, or_false] at hf
    rcases hf with rfl | rfl | rfl | rfl | rfl | rfl | rfl | rfl | rfl | rfl | rfl | rfl | rfl | rfl
    · exact vName_ok
    · exact vConst_ok
    · exact vBin_ok
    · exact vBool_ok
    · exact vCmp_ok
    · exact vRev_ok
    · exact vSeq_ok
    · exact vIsi_ok
    · exact vLRg_ok
    · exact vBest_ok
    · exact vSrtSet_ok
    · exact vCall_ok
    · exact vLc_ok
    · exact vLc2_ok
  i := fun f hf => by
    simp only [rules, List.mem_cons, List.not_mem_nil, or_false] at hf
    rcases hf with rfl | rfl | rfl | rfl
    · exact iRange_ok
    · exact iEnum_ok
    · exact iZip_ok
    · exact iPlain_ok
  s := fun f hf => by
    simp only [rules, List.mem_cons, List.not_mem_nil, or_false] at hf
    rcases hf with rfl | rfl | rfl | rfl | rfl | rfl | rfl | rfl
    · exact sRetOwn_ok
    · exact sExpr_ok
    · exact sName_ok
    · exact sPair_ok
    · exact sTup_ok
    · exact sTup2_ok
    · exact sSub_ok
    · exact sFlow_ok
end DL

namespace DL
open PySem L2 PySem.Spec PyProof.Rows

/-! ### dict displays -/
def kvD : List (D × D) → Option (List (Key × D))
  | [] => some []
  | (k, v) :: r => match keyD k, kvD r with
    | some y, some l => some ((y, v) :: l)
    | _, _ => none
def prM : List (CB × CB) → Env → M (List (D × D))
  | [], _ => ret []
  | (a, b) :: r, ρ => bnd (a ρ) fun x => bnd (b ρ) fun y => bnd (prM r ρ) fun l => ret ((x, y) :: l)
def cDct (ps : List (CB × CB)) : CV := fun ρ => bnd (prM ps ρ) fun l Q _ => match kvD l with
  | some kvs => Q (.dct (unK (mergeG [] kvs)), true)
  | none => False
inductive RepVV (K : PySem.W.Frag) (F : Hp) : List (V × V) → List (D × D) → Prop
  | nil : RepVV K F [] []
  | cons {x y : V} {d e : D} {ps : List (V × V)} {l : List (D × D)} : Rep K F x d → Rep K F y e → RepVV K F ps l → RepVV K F ((x, y) :: ps) ((d, e) :: l)
theorem RepVV.kvs {K : PySem.W.Frag} {F : Hp} : ∀ {l : List (D × D)} {ps : List (V × V)} {kvs : List (Key × D)}, RepVV K F ps l → kvD l = some kvs → ∃ ks : List (Key × V), ps = ks.map (fun kv => (kV kv.1, kv.2)) ∧ RepP K F ks kvs ∧ ks.length = l.length
  | [], _, _, .nil, e => by simp only [kvD, Option.some.injEq] at e; subst e; exact ⟨[], rfl, .nil, rfl⟩
  | (d, v) :: l, _, _, .cons r1 r2 t, e => by
    simp only [kvD] at e
    split at e
    · rename_i y m e1 e2
      cases e
      obtain ⟨ks, rfl, h, hl⟩ := RepVV.kvs t e2
      have := key_is r1 e1
      subst this
      exact ⟨(y, _) :: ks, rfl, .cons r2 h, by rw [List.length_cons, List.length_cons, hl]⟩
    · cases e
theorem pairs_imp {K : PySem.W.Frag} {E : Xn → Prop} {B F0 : Hp} {σ : L2.St} {ρ : Env} : ∀ (ps : List (CB × CB)) {F H : Hp} {Q : List (D × D) → Prop} {R : List (V × V) → Hp → Prop}, REnv K B F0 F H σ ρ → prM ps ρ Q E →
    (∀ vs H' F' l, Grow F H F' H' → RepVV K F' vs l → l.length = ps.length → Q l → R vs H') → tPairs (ps.map fun p => (rdF K E p.1, rdF K E p.2)) σ H R
  | [], F, H, Q, R, re, h, k => k [] H F [] re.gr .nil rfl h
  | (a, b) :: ps, F, H, Q, R, re, h, k => by
    refine ⟨B, F0, F, ρ, _, re, h, fun x H1 F1 d g1 r1 h1 => ⟨B, F0, F1, ρ, _, re.grow g1, h1, fun y H2 F2 e g2 r2 h2 => ?_⟩⟩
    refine pairs_imp ps ((re.grow g1).grow g2) h2 fun vs H3 F3 l g3 r3 hl q => ?_
    exact k _ H3 F3 _ ((g1.trans g2).trans g3) (.cons (r1.mono (g2.trans g3).f) (r2.mono g3.f) r3) (by rw [List.length_cons, List.length_cons, hl]) q
theorem unK_rep {K : PySem.W.Frag} {F : Hp} {ks : List (Key × V)} {kvs : List (Key × D)} (h : RepP K F ks kvs) : RepK K F (mergeK [] ks) (unK (mergeG [] kvs)) := (h.merge .nil).rep
theorem re_dct0 {X : Cx} {E : Xn → Prop} {pos : Pos} : PE X (.Dict [] [] pos) (rdV X.K E (cDct [])) := pe_dnewK.imp fun σ H Q' ⟨B, F0, F, ρ, Q, re, h, k⟩ p hp =>
  k (.ref p) _ F (.dct [], true) (Grow.own re.fh hp _) (Val.own (d := .dct []) hp (re.fh.free hp) ⟨[], upd_same, .nil⟩) h
theorem re_dct {X : Cx} {E : Xn → Prop} {pos : Pos} {keys : List (Option Expr)} {values : List Expr} {ps : List (CB × CB)} (h : PPs X pos keys values (ps.map fun p => (rdF X.K E p.1, rdF X.K E p.2))) (hall : keys.all (·.isSome) = true) (hl : keys.length = values.length)
    (h0 : keys ≠ []) (h15 : keys.length ≤ 15) (hps : ps.length ≤ 15) : PE X (.Dict keys values pos) (rdV X.K E (cDct ps)) :=
  (pe_disp h hall hl h0 h15).imp fun σ H Q' ⟨B, F0, F, ρ, Q, re, h, k⟩ p hp => by
    have ga := Grow.own re.fh hp (.dK [])
    refine pairs_imp ps (re.grow ga) h fun vs H2 F2 l g2 r2 hlen q => ?_
    have hp2 := g2.h _ _ upd_same
    have hF2 : F2 p = none := by
      cases z : F2 p with
      | none => rfl
      | some u =>
        rcases g2.nw p u z with w | w
        · rw [re.fh.free hp] at w; cases w
        · rw [upd_same] at w; cases w
    have q : (match kvD l with | some kvs => Q (.dct (unK (mergeG [] kvs)), true) | none => False) := q
    split at q
    · rename_i kvs e
      obtain ⟨ks, rfl, rp, hk⟩ := r2.kvs e
      refine ⟨hp2, ks, rfl, by rw [hk, hlen]; exact hps, ?_⟩
      have gg := ga.trans g2
      refine k (.ref p) _ F2 _ ⟨fun b u z => ?_, gg.f, fun b u z => ?_, gg.nw⟩ (Val.own (d := .dct (unK (mergeG [] kvs))) hp hF2 ⟨_, upd_same, unK_rep rp⟩) q
      · rw [upd_ne (ne_of_none z hp)]; exact gg.h b u z
      · rw [upd_ne (ne_of_none z hF2)]; exact gg.fh b u z
    · exact q.elim
def psOf (r : Rec) (g : Sg) : List (Option Expr) → List Expr → Option (List (CB × CB))
  | [], [] => some []
  | some k :: ks, v :: vs => match fOf r g k, fOf r g v, psOf r g ks vs with
    | some a, some b, some l => some ((a, b) :: l)
    | _, _, _ => none
  | _, _ => none
theorem psOf_ok {r : Rec} (R : RecOk r) {X : Cx} {g : Sg} {E : Xn → Prop} {pos : Pos} (ok : SgOk X g) : ∀ {keys : List (Option Expr)} {values : List Expr} {ps : List (CB × CB)}, psOf r g keys values = some ps →
    PPs X pos keys values (ps.map fun p => (rdF X.K E p.1, rdF X.K E p.2)) ∧ keys.all (·.isSome) = true ∧ keys.length = values.length ∧ ps.length = keys.length
  | [], [], _, h => by simp only [psOf, Option.some.injEq] at h; subst h; exact ⟨pps_nil, rfl, rfl, rfl⟩
  | some k :: ks, v :: vs, _, h => by
    simp only [psOf] at h
    split at h
    · rename_i a b l h1 h2 h3
      cases h
      obtain ⟨q1, q2, q3, q4⟩ := psOf_ok (E := E) (pos := pos) R ok h3
      exact ⟨pps_cons (fOf_ok R ok h1) (fOf_ok R ok h2) q1, by rw [List.all_cons, q2]; rfl, by rw [List.length_cons, List.length_cons, q3], by rw [List.length_cons, List.length_cons, q4]⟩
    · cases h
  | [], _ :: _, _, h => by simp [psOf] at h
  | none :: _, _, _, h => by simp [psOf] at h
  | some _ :: _, [], _, h => by simp [psOf] at h
def vDct : VR := fun r g e => match e with
  | .Dict keys values _ => if keys.length ≤ 15 then (psOf r g keys values).map cDct else none
  | _ => none
theorem vDct_ok : VrOk vDct := by
  intro r R X g E e c ok h
  unfold vDct at h
  split at h
  · rename_i keys values pos
    split at h
    · rename_i h15
      obtain ⟨ps, h1, rfl⟩ := map_some h
      obtain ⟨q1, q2, q3, q4⟩ := psOf_ok (E := E) (pos := pos) R ok h1
      cases keys with
      | nil =>
        cases values with
        | nil => simp only [psOf, Option.some.injEq] at h1; subst h1; exact re_dct0
        | cons _ _ => cases q3
      | cons k ks => exact re_dct q1 q2 q3 (by simp) h15 (by rw [q4]; exact h15)
    · cases h
  · cases h

/-! ### sep.join(list of texts) -/
def joinM : D → D → M (D × Bool)
  | .str a, .lst ds => fun Q _ => match strsD ds with
    | some ys => (ys.map (·.length)).sum + ys.length * a.length ≤ 16777216 ∧ Q (.str (Txt.join a ys), false)
    | none => False
  | _, _ => fail
def cJoin (s : Str) (b : CB) : CV := fun ρ => bnd (b ρ) fun y => joinM (.str s) y
theorem re_join {X : Cx} {E : Xn → Prop} {s : Str} {kk : Nat} {e : Expr} {xb : CB} {apos pos p0 : Pos} (hb : PE X e (rdB X.K E xb)) (hs : starEach [e] X.env = [(false, eval e X.env)])
    (hbase : attributeBase (.Constant (.str s) kk p0) "join" X.env (eval (.Constant (.str s) kk p0) X.env) = eval (.Constant (.str s) kk p0) X.env)
    (hline : (apos.endLine == pos.line) = true) : PE X (.Call (.Attribute (.Constant (.str s) kk p0) "join" apos) [e] [] pos) (rdV X.K E (cJoin s xb)) :=
  (pe_join pe_str hb hs hbase hline).imp fun σ H Q' ⟨B, F0, F, ρ, Q, re, h, k⟩ => by
    refine ⟨⟨s, rfl⟩, B, F0, F, ρ, _, re, h, fun u H2 F2 d2 g2 b2 h2 => ?_⟩
    cases d2 with
    | lst ds =>
      have h2 : (match strsD ds with | some ys => (ys.map (·.length)).sum + ys.length * s.length ≤ 16777216 ∧ Q (.str (Txt.join s ys), false) | none => False) := h2
      split at h2
      · rename_i ys e2
        obtain ⟨p, vs, rfl, hp, rp⟩ := b2.lst g2.fh
        cases rp.strs e2
        exact ⟨s, p, ys, rfl, rfl, .inl (SqL.of hp), h2.1, k _ H2 F2 (.str (Txt.join s ys), false) g2 (Val.of (.str _)) h2.2⟩
      · exact h2.elim
    | _ => exact (show False from h2).elim
def vJoin : VR := fun r g e => match e with
  | .Call (.Attribute (.Constant (.str s) _ _) m ap) [a] [] cp => if m = ("join" : Str) ∧ (ap.endLine == cp.line) = true ∧ plainE a = true then (bOf r g a).map (cJoin s) else none
  | _ => none
theorem vJoin_ok : VrOk vJoin := by
  intro r R X g E e c ok h
  unfold vJoin at h
  split at h
  · split at h
    · rename_i hm
      obtain ⟨rfl, hl, hp⟩ := hm
      obtain ⟨x, h1, rfl⟩ := map_some h
      exact re_join (bOf_ok R ok h1) (plain_star hp) rfl hl
    · cases h
  · cases h

/-! ### tuples of texts among the module's constants -/
theorem GvB.strs {P : Program} {w : World} {K : PySem.W.Frag} {mg : Str → Option Value} {base : Heap} {k : Nat} {x : Str} {a : Addr} {od : Option Addr} {sl : Array (Option Value)} {n : Nat} {zs : List Str} {its : Array Value} (hm : mg x = some (.ref a))
    (hk : K.lookup a = some ⟨.type "tuple", od, .seq its n, sl⟩) (hz : its.size ≤ sizeLine) (hv : Vals (zs.map V.str) its.toList) : GvB P w K mg base k x (.cv (.tup (zs.map .str))) :=
  ⟨.ref a, .ref a, hm, rfl, fun F => .tup (.inr ⟨_, _, _, hk, rfl, rfl, hz, hv⟩) (repL_strs zs)⟩

def rules2 : Rules where
  v := [vName, vConst, vBin, vBool, vCmp, vRev, vSeq, vIsi, vLRg, vBest, vSrtSet, vCall, vLc, vLc2, vDct, vJoin]
  i := rules.i
  s := rules.s
theorem rules2_ok : RulesOk rules2 where
  v := fun f hf => by
    simp only [rules2, List.mem_cons, List.not_mem_nil, or_false] at hf
    rcases hf with rfl | rfl | rfl | rfl | rfl | rfl | rfl | rfl | rfl | rfl | rfl | rfl | rfl | rfl | rfl | rfl
    · exact vName_ok
    · exact vConst_ok
    · exact vBin_ok
    · exact vBool_ok
    · exact vCmp_ok
    · exact vRev_ok
    · exact vSeq_ok
    · exact vIsi_ok
    · exact vLRg_ok
    · exact vBest_ok
    · exact vSrtSet_ok
    · exact vCall_ok
    · exact vLc_ok
    · exact vLc2_ok
    · exact vDct_ok
    · exact vJoin_ok
  i := rules_ok.i
  s := rules_ok.s
end DL

namespace DL
open PySem L2 PySem.Spec PyProof.Rows

/-! ### a list of lists that both change: what stands below is kept in slots under names that the text does not know -/
def ghN (i : Nat) : Str := ⟨#[63, i]⟩
def isGh (x : Str) : Bool := match x.cps.toList with | [63, _] => true | _ => false
/-- where the unknown names begin -/
def gh0 (N : List Str) : Nat := N.findIdx isGh
def ghB (g : Sg) : Bool := decide (gh0 g.N < g.N.length) && (g.N.drop (gh0 g.N)).all fun x => !visB g.sc x
theorem vis_B {sc : Scope} {x : Str} (h : Vis sc x) : visB sc x = true := by
  unfold Vis at h
  unfold visB
  rcases h with h | h | h <;> rw [h]
theorem ghB_is {X : Cx} {g : Sg} (ok : SgOk X g) (h : ghB g = true) {j : Nat} (hj : gh0 g.N ≤ j) : ∀ x, X.N[j]? = some x → ¬ Vis X.env.scope x := by
  intro x hx hv
  unfold ghB at h
  rw [Bool.and_eq_true] at h
  rw [ok.N] at hx
  have : x ∈ g.N.drop (gh0 g.N) := by
    have e : (g.N.drop (gh0 g.N))[j - gh0 g.N]? = some x := by
      rw [List.getElem?_drop]
      have : gh0 g.N + (j - gh0 g.N) = j := by omega
      rw [this]; exact hx
    exact List.mem_of_getElem? e
  have h2 := List.all_eq_true.mp h.2 x this
  rw [ok.sc] at hv
  rw [vis_B hv] at h2
  cases h2
def findG (n0 : Nat) (ρ : Env) (p : Addr) : Option (Nat × D) := match (ρ.drop n0).findIdx? (fun c => match c with | .ow _ (some q) => decide (q = p) | _ => false) with
  | some j => match ρ[n0 + j]? with
    | some (.ow d (some q)) => if q = p then some (n0 + j, d) else none
    | _ => none
  | none => none
theorem findG_is {n0 : Nat} {ρ : Env} {p : Addr} {j : Nat} {d : D} (h : findG n0 ρ p = some (j, d)) : n0 ≤ j ∧ ρ[j]? = some (.ow d (some p)) := by
  unfold findG at h
  split at h
  · split at h
    · rename_i k _ d' q e
      split at h
      · rename_i hq
        cases h
        subst hq
        exact ⟨Nat.le_add_right _ _, e⟩
      · cases h
    · cases h
  · cases h
def deref (n0 : Nat) (ρ : Env) : D → D
  | .raw (.ref p) => match findG n0 ρ p with
    | some (_, d) => d
    | none => .raw (.ref p)
  | d => d
theorem deref_bor {K : PySem.W.Frag} {B F0 F H F' H' : Hp} {σ : L2.St} {ρ : Env} {n0 : Nat} (re : REnv K B F0 F H σ ρ) (g : Grow F H F' H') {v : V} {d : D} (b : Bor K F' H' v d) : Bor K F' H' v (deref n0 ρ d) := by
  unfold deref
  split
  · rename_i p
    split
    · rename_i j d' e
      obtain ⟨_, e⟩ := findG_is e
      obtain ⟨_, _, p', rfl, _, _, o, z⟩ := re.cell _ _ e
      have := z p rfl
      subst this
      rcases b with b | ⟨q, rfl, o2⟩
      · cases b
        exact .inr ⟨_, rfl, o.grow g⟩
      · exact o2.elim
    · exact b
  · exact b
def cIxG (n0 : Nat) (a b : CB) : CV := fun ρ => bnd (a ρ) fun x => bnd (b ρ) fun y => bnd (ixM (deref n0 ρ x) y) fun d => ret (d, false)
theorem re_ixG {X : Cx} {E : Xn → Prop} {a b : Expr} {xa xb : CB} {pos : Pos} (n0 : Nat) (ha : PE X a (rdB X.K E xa)) (hb : PE X b (rdB X.K E xb)) (hs : PlainIx b) : PE X (.Subscript a b pos) (rdV X.K E (cIxG n0 xa xb)) :=
  (pe_ix ix_ok ha hb hs).imp fun σ H Q' ⟨B, F0, F, ρ, Q, re, h, k⟩ =>
    ⟨B, F0, F, ρ, _, re, h, fun v H1 F1 d g1 b1 h1 => ⟨B, F0, F1, ρ, _, re.grow g1, h1, fun u H2 F2 d2 g2 b2 h2 =>
      ⟨F2, deref n0 ρ d, d2, _, E, g2.fh, deref_bor re (g1.trans g2) (b1.grow g2), b2, h2, fun w d3 r3 q => k w H2 F2 (d3, false) (g1.trans g2) (Val.of r3) q⟩⟩⟩
def vIxG : VR := fun r g e => match e with
  | .Subscript _ (.Slice ..) _ => none
  | .Subscript a b _ => if (ghB g && plainE b) = true then match bOf r g a, bOf r g b with
    | some x, some y => some (cIxG (gh0 g.N) x y)
    | _, _ => none else none
  | _ => none
theorem vIxG_ok : VrOk vIxG := by
  intro r R X g E e c ok h
  unfold vIxG at h
  split at h
  · cases h
  · split at h
    · rename_i hp
      rw [Bool.and_eq_true] at hp
      split at h
      · cases h; exact re_ixG _ (bOf_ok R ok ‹_›) (bOf_ok R ok ‹_›) (plain_ix hp.2)
      · cases h
    · cases h
  · cases h

/-! ### xs.append(a new list), the new list kept below -/
def sPark (n0 i : Nat) (c : CV) : CS := fun ρ W E => isOwL ρ i ∧ i < n0 ∧ c ρ (fun r => r.2 = true ∧ ∃ j, n0 ≤ j ∧ ρ[j]? = some .no ∧ ∀ p : Addr, (∀ (k : Nat) (d : D) (q : Addr), ρ[k]? = some (.ow d (some q)) → q ≠ p) →
  match ρ[i]? with
  | some (.ow (.lst xs) z) => xs.length < sizeLine ∧ W.nx ((ρ.set i (.ow (.lst (xs ++ [.raw (.ref p)])) z)).set j (.ow r.1 (some p)))
  | _ => False) E
theorem ps_ghost {X : Cx} {st : Stmt} {t : TS} {n0 : Nat} (gh : ∀ j, n0 ≤ j → ∀ x, X.N[j]? = some x → ¬ Vis X.env.scope x) (h : PS X st t) : PS X st (fun Dn σ H => t { Dn with nx := fun σ' H' => ∃ j o, n0 ≤ j ∧ Dn.nx (σ'.set j o) H' } σ H) :=
  ⟨fun pins s σ H Dn I hw => thn (h.run pins s σ H _ I hw) fun fl s' q => by
    cases fl with
    | next => obtain ⟨σ', H', I', j, o, hj, q⟩ := q; exact ⟨_, H', Inv.ghost I' (gh j hj), q⟩
    | brk => exact q
    | cont => exact q
    | ret u => exact q⟩
section
variable {X : Cx} {E : Xn → Prop} {pos pos' : Pos} {e : Expr} {c : CV} {xe : CB}
theorem rs_park {n0 i : Nat} {x : Str} {apos cpos : Pos} (gh : ∀ j, n0 ≤ j → ∀ x, X.N[j]? = some x → ¬ Vis X.env.scope x) (hN : X.N[i]? = some x) (hv : Vis X.env.scope x) (hd : (x == ("__debug__" : Str)) = false) (hcd : (x == ("__classdict__" : Str)) = false) (he : PE X e (rdV X.K E c))
    (hbase : attributeBase (.Name x pos) "append" X.env (eval (.Name x pos) X.env) = eval (.Name x pos) X.env)
    (hfew : ((backTo cpos (starEach [e] X.env)).all (fun x => !x.1) && (backToKw cpos (keywordEach [] X.env)).all (fun x => x.1.isSome) && decide ([e].length + ([] : List Keyword).length + (if ([] : List Keyword).isEmpty then 0 else 1) < 30)) = true)
    (hline : (apos.endLine == cpos.line) = true) (hs : starEach [e] X.env = (false, eval e X.env) :: starEach [] X.env) (hpl : (backTo cpos (starEach [] X.env)).any (·.1) = false)
    (hsw : swapsWith (.Call (.Attribute (.Name x pos) "append" apos) [e] [] cpos) none pos'.line X.env = pure false) :
    PS X (.Expr (.Call (.Attribute (.Name x pos) "append" apos) [e] [] cpos) pos') (rdS X.K E (sPark n0 i c)) :=
  PS.imp (ps_ghost gh (ps_expr (pe_bm F.plainAttrs_list F.slot_list_append rfl mt_append (pe_var hN hv hd hcd) (pa_cons he pa_nil hs) hbase hfew hline hs hpl) hsw)) fun Dn σ H ⟨B, F0, F, ρ, W, re, h, l⟩ => by
    obtain ⟨h0, hi, h⟩ := h
    obtain ⟨xs, z0, ex⟩ := isOwL_iff h0
    obtain ⟨p, vs, es, hp, r⟩ := re.owL ex
    refine ⟨_, es, .inl ⟨rfl, _, SqL.of hp⟩, B, F0, F, ρ, _, re, h, fun w H' F' rr gr rd q => ?_⟩
    obtain ⟨hr, j, hj, ej, q⟩ := q
    unfold Val at rd
    rw [if_pos hr] at rd
    obtain ⟨p2, rfl, h20, hf2, o2⟩ := rd
    have thr : ∀ (k : Nat) (d : D) (z : Option Addr), ρ[k]? = some (Cell.ow d z) → σ[k]? ≠ some (some (V.ref p2)) := fun k d z hk hs => by
      obtain ⟨_, h1, p', rfl, _, _, o', _⟩ := re.cell k _ hk
      rw [hs] at h1
      cases h1
      obtain ⟨u, hu⟩ := o'.there
      rw [h20] at hu; cases hu
    have q := q p2 fun k d q' hk e => by
      subst e
      obtain ⟨_, h1, p', rfl, _, _, o', z'⟩ := re.cell k _ hk
      have := z' q' rfl
      subst this
      exact thr k d _ hk h1
    rw [ex] at q
    have re' := re.grow gr
    obtain ⟨hsz, q⟩ := q
    have r2 := r.mono gr.f
    refine ⟨p, vs, .ref p2, rfl, rfl, gr.h _ _ hp, by rw [r2.length]; exact hsz, ?_⟩
    have re2 := re'.chg (d := .lst (xs ++ [.raw (.ref p2)])) (o := .lst (vs ++ [.ref p2])) ex es fun H2 h2 => Own.mkL h2 (r2.append (.cons (.raw _) .nil))
    have hne : p2 ≠ p := fun e => by subst e; exact thr i _ _ ex es
    refine ⟨j, some (.ref p2), hj, l.nx _ _ F' _ (re2.put j (c := .ow rr.1 (some p2)) ⟨p2, rfl, re.bh.free h20, hf2, o2.upd_ne hne, fun q z => by cases z; rfl⟩ fun d z p' e1 e2 k e y hk ek es' => ?_) q⟩
    cases e1
    cases e2
    rcases set_at ek with ⟨rfl, _, _⟩ | ⟨_, ek2⟩
    · rw [es] at es'; cases es'; exact hne rfl
    · exact thr k _ _ ek2 es'
/-- x.append(e), x another name for a list kept below -/
def sAppG (n0 i : Nat) (c : CB) : CS := fun ρ W E => ∃ (p : Addr) (j : Nat) (xs : List D), ρ[i]? = some (.sh (.raw (.ref p))) ∧ findG n0 ρ p = some (j, .lst xs) ∧
  c ρ (fun d => xs.length < sizeLine ∧ W.nx (ρ.set j (.ow (.lst (xs ++ [d])) (some p)))) E
theorem rs_appG {n0 i : Nat} {x : Str} {apos cpos : Pos} (hN : X.N[i]? = some x) (hv : Vis X.env.scope x) (hd : (x == ("__debug__" : Str)) = false) (hcd : (x == ("__classdict__" : Str)) = false) (he : PE X e (rdF X.K E xe))
    (hbase : attributeBase (.Name x pos) "append" X.env (eval (.Name x pos) X.env) = eval (.Name x pos) X.env)
    (hfew : ((backTo cpos (starEach [e] X.env)).all (fun x => !x.1) && (backToKw cpos (keywordEach [] X.env)).all (fun x => x.1.isSome) && decide ([e].length + ([] : List Keyword).length + (if ([] : List Keyword).isEmpty then 0 else 1) < 30)) = true)
    (hline : (apos.endLine == cpos.line) = true) (hs : starEach [e] X.env = (false, eval e X.env) :: starEach [] X.env) (hpl : (backTo cpos (starEach [] X.env)).any (·.1) = false)
    (hsw : swapsWith (.Call (.Attribute (.Name x pos) "append" apos) [e] [] cpos) none pos'.line X.env = pure false) :
    PS X (.Expr (.Call (.Attribute (.Name x pos) "append" apos) [e] [] cpos) pos') (rdS X.K E (sAppG n0 i xe)) :=
  PS.imp (ps_expr (pe_bm F.plainAttrs_list F.slot_list_append rfl mt_append (pe_var hN hv hd hcd) (pa_cons he pa_nil hs) hbase hfew hline hs hpl) hsw) fun Dn σ H ⟨B, F0, F, ρ, W, re, h, l⟩ => by
    obtain ⟨p, j, xs, ei, ej, h⟩ := h
    obtain ⟨_, ej⟩ := findG_is ej
    obtain ⟨_, h1, y, rfl, ry⟩ := re.cell i _ ei
    cases ry
    obtain ⟨_, h2, p', rfl, hB, hF, ⟨vs, hp, r⟩, z⟩ := re.cell j _ ej
    have := z p rfl
    subst this
    refine ⟨_, h1, .inl ⟨rfl, _, SqL.of hp⟩, B, F0, F, ρ, _, re, h, fun w H' F' d gr rd q => ?_⟩
    have r2 := r.mono gr.f
    refine ⟨p', vs, w, rfl, rfl, gr.h _ _ hp, by rw [r2.length]; exact q.1, ?_⟩
    exact l.nx _ _ F' _ ((re.grow gr).chg (d := .lst (xs ++ [d])) ej h2 fun H2 h2 => Own.mkL h2 (r2.append (.cons rd .nil))) q.2

/-! ### all of it given away -/
def ghL (n0 : Nat) (ρ : Env) : List Nat := (List.range (ρ.length - n0)).map fun k => n0 + k
def sDeep (n0 i : Nat) (c : CS) : CS := fun ρ W E => ∃ ds z, i < n0 ∧ ρ[i]? = some (.ow (.lst ds) z) ∧ c ((wipeE ρ (ghL n0 ρ)).set i (.sh (.lst (ds.map (deref n0 ρ))))) W E
theorem Grow.frz1 {F H : Hp} (s : Same F H) {p : Addr} {o : HO} (hF : F p = none) (hp : H p = some o) : Same F (upd F p o) ∧ Same (upd F p o) H := by
  refine ⟨fun b w z => by rw [upd_ne (ne_of_none z hF)]; exact z, fun b w z => ?_⟩
  by_cases hb : b = p
  · subst hb; rw [upd_same] at z; rw [← z]; exact hp
  · rw [upd_ne hb] at z; exact s b w z
/-- everything that is one's own under slots js is frozen -/
theorem REnv.frzs {K : PySem.W.Frag} {B F0 F H : Hp} {σ : L2.St} {ρ : Env} (re : REnv K B F0 F H σ ρ) : ∀ js : List Nat, (∀ j ∈ js, ∀ d z, ρ[j]? = some (Cell.ow d z) → True) → ∃ F2, Same F F2 ∧ REnv K B F0 F2 H σ (wipeE ρ js) ∧
    ∀ j ∈ js, ∀ d p, ρ[j]? = some (Cell.ow d (some p)) → Rep K F2 (.ref p) d
  | [], _ => ⟨F, Same.refl F, re, fun j hj => by cases hj⟩
  | j :: js, _ => by
    obtain ⟨F2, sm, re2, rp⟩ := REnv.frzs re js fun _ _ _ _ _ => trivial
    by_cases hc : ∃ d z, (wipeE ρ js)[j]? = some (Cell.ow d z)
    · obtain ⟨d, z, e⟩ := hc
      obtain ⟨v, h1, p, rfl, hB, hF, hO, hz⟩ := re2.cell j _ e
      obtain ⟨u, hu, rpp⟩ := hO.frz hF
      obtain ⟨s1, s2⟩ := Grow.frz1 re2.fh hF hu
      have re3 : REnv K B F0 (upd F2 p u) H σ ((wipeE ρ js).set j .no) := by
        refine ⟨re2.bh, re2.f0.trans s1, s2, fun b w z => ?_, by rw [List.length_set]; exact re2.len, fun k c ek => ?_, fun k m d1 d2 z1 z2 q hkm ek em ejs => ?_⟩
        · by_cases hb : b = p
          · subst hb; exact .inr hB
          · rw [upd_ne hb] at z; exact re2.fr b w z
        · rcases set_at ek with ⟨rfl, hi, rfl⟩ | ⟨hk, ek2⟩
          · exact ⟨_, h1, trivial⟩
          · obtain ⟨w, w1, w2⟩ := re2.cell k c ek2
            refine ⟨w, w1, ?_⟩
            cases c with
            | no => trivial
            | sh d => obtain ⟨x, rfl, r⟩ := w2; exact ⟨x, rfl, r.mono s1⟩
            | ow d' z' =>
              obtain ⟨q, rfl, q1, q2, q3, q4⟩ := w2
              have hq : q ≠ p := fun z => by
                subst z
                exact re2.dis k j d' d _ _ q hk ek2 e w1 h1
              exact ⟨q, rfl, q1, by rw [upd_ne hq]; exact q2, q3.mo s1, q4⟩
        · rcases set_at ek with ⟨_, _, hq⟩ | ⟨hk, ek2⟩
          · cases hq
          · rcases set_at em with ⟨_, _, hq⟩ | ⟨hm, em2⟩
            · cases hq
            · exact re2.dis k m _ _ _ _ q hkm ek2 em2 ejs
      refine ⟨upd F2 p u, sm.trans s1, re3, fun k hk d' p' ek => ?_⟩
      by_cases hkj : k ∈ js
      · exact (rp k hkj d' p' ek).mono s1
      · have : k = j := by rcases List.mem_cons.mp hk with h | h; exact h; exact absurd h hkj
        subst this
        have e' : (wipeE ρ js)[k]? = some (Cell.ow d' (some p')) := by
          obtain ⟨_, e2⟩ := wipeE_ow e
          rw [ek] at e2
          cases e2
          exact e
        rw [e] at e'
        cases e'
        have := hz p' rfl
        subst this
        exact rpp
    · refine ⟨F2, sm, re2.forget j, fun k hk d' p' ek => ?_⟩
      by_cases hkj : k ∈ js
      · exact rp k hkj d' p' ek
      · have : k = j := by rcases List.mem_cons.mp hk with h | h; exact h; exact absurd h hkj
        subst this
        exfalso
        refine hc ⟨d', some p', ?_⟩
        have : ∀ js : List Nat, k ∉ js → (wipeE ρ js)[k]? = ρ[k]? := by
          intro js
          induction js with
          | nil => intro _; rfl
          | cons a js ih =>
            intro h
            rw [List.mem_cons, not_or] at h
            show ((wipeE ρ js).set a .no)[k]? = _
            rw [List.getElem?_set_ne (Ne.symm h.1)]
            exact ih h.2
        rw [this js hkj]; exact ek
theorem wipeE_out {ρ : Env} {k : Nat} : ∀ {js : List Nat}, k ∉ js → (wipeE ρ js)[k]? = ρ[k]?
  | [], _ => rfl
  | a :: js, h => by
    rw [List.mem_cons, not_or] at h
    show ((wipeE ρ js).set a .no)[k]? = _
    rw [List.getElem?_set_ne (Ne.symm h.1)]
    exact wipeE_out h.2
theorem rs_deep {st : Stmt} {n0 i : Nat} {a : CS} (h : PS X st (rdS X.K E a)) : PS X st (rdS X.K E (sDeep n0 i a)) := h.imp fun Dn σ H ⟨B, F0, F, ρ, W, re, h, l⟩ => by
  obtain ⟨ds, z, hi, ei, h⟩ := h
  obtain ⟨F2, sm, re2, rp⟩ := re.frzs (ghL n0 ρ) fun _ _ _ _ _ => trivial
  have hni : i ∉ ghL n0 ρ := fun hm => by
    unfold ghL at hm
    obtain ⟨k, _, e⟩ := List.mem_map.mp hm
    omega
  have ei2 : (wipeE ρ (ghL n0 ρ))[i]? = some (.ow (.lst ds) z) := by rw [wipeE_out hni]; exact ei
  obtain ⟨v, h1, p, rfl, hB, hF, ⟨vs, hp, r⟩, hz⟩ := re2.cell i _ ei2
  -- the items, read below
  have items : ∀ {vs : List V} {ds : List D}, RepL X.K F2 vs ds → RepL X.K F2 vs (ds.map (deref n0 ρ)) := by
    intro vs ds r
    induction ds generalizing vs with
    | nil => cases r; exact .nil
    | cons d ds ih =>
      cases r with
      | cons rd rt =>
        rw [List.map_cons]
        refine .cons ?_ (ih rt)
        unfold deref
        split
        · rename_i q
          split
          · rename_i j d' e
            obtain ⟨hj, e⟩ := findG_is e
            cases rd
            refine rp j ?_ d' q e
            unfold ghL
            have := lt_of_at e
            exact List.mem_map.mpr ⟨j - n0, List.mem_range.mpr (by omega), by omega⟩
          · exact rd
        · exact rd
  obtain ⟨s1, s2⟩ := Grow.frz1 re2.fh hF hp
  refine ⟨B, F0, upd F2 p (.lst vs), _, W, ?_, h, l⟩
  have rpp : Rep X.K (upd F2 p (.lst vs)) (.ref p) (.lst (ds.map (deref n0 ρ))) := .lst upd_same ((items r).mono s1)
  refine ⟨re2.bh, re2.f0.trans s1, s2, fun b w z => ?_, by rw [List.length_set]; exact re2.len, fun k c ek => ?_, fun k m d1 d2 z1 z2 q hkm ek em ejs => ?_⟩
  · by_cases hb : b = p
    · subst hb; exact .inr hB
    · rw [upd_ne hb] at z; exact re2.fr b w z
  · rcases set_at ek with ⟨rfl, hi, rfl⟩ | ⟨hk, ek2⟩
    · exact ⟨_, h1, _, rfl, rpp⟩
    · obtain ⟨w, w1, w2⟩ := re2.cell k c ek2
      refine ⟨w, w1, ?_⟩
      cases c with
      | no => trivial
      | sh d => obtain ⟨x, rfl, r⟩ := w2; exact ⟨x, rfl, r.mono s1⟩
      | ow d' z' =>
        obtain ⟨q, rfl, q1, q2, q3, q4⟩ := w2
        have hq : q ≠ p := fun z => by
          subst z
          exact re2.dis k i d' _ _ _ q hk ek2 ei2 w1 h1
        exact ⟨q, rfl, q1, by rw [upd_ne hq]; exact q2, q3.mo s1, q4⟩
  · rcases set_at ek with ⟨_, _, hq⟩ | ⟨hk, ek2⟩
    · cases hq
    · rcases set_at em with ⟨_, _, hq⟩ | ⟨hm, em2⟩
      · cases hq
      · exact re2.dis k m _ _ _ _ q hkm ek2 em2 ejs
end
def sPile : SR := fun r g st => if ghB g = true then match st with
  | .Expr (.Call (.Attribute (.Name x _) m ap) [a] [] cp) _ => if m = ("append" : Str) ∧ (ap.endLine == cp.line) = true ∧ plainE a = true then match slotOf g x with
    | some i => if i ∈ g.own then (match a with | .List .. => (r.v g a).map (sPark (gh0 g.N) i) | _ => none) else (fOf r g a).map (sAppG (gh0 g.N) i)
    | none => none else none
  | .Return (some e) _ => match g.own with
    | [i] => (fOf r (minus g [i]) e).map fun c => sDeep (gh0 g.N) i (sRet c)
    | _ => none
  | _ => none
  else none
theorem sPile_ok : SrOk sPile := by
  intro r R X g E st c ok hp h
  unfold sPile at h
  split at h
  · rename_i hg
    have gh := fun j hj => ghB_is ok hg (j := j) hj
    split at h
    · split at h
      · rename_i hm
        obtain ⟨rfl, hl, hpl⟩ := hm
        split at h
        · rename_i i h1
          obtain ⟨q1, q2, q3, q4⟩ := slotOf_is h1
          split at h
          · split at h
            · obtain ⟨u, h2, rfl⟩ := map_some h
              exact rs_park gh (by rw [ok.N]; exact q1) (by rw [ok.sc]; exact q2) q3 q4 (R.v ok h2) rfl (few1 hpl) hl (plain_star hpl) rfl (noComp_sw rfl _ _)
            · cases h
          · obtain ⟨u, h2, rfl⟩ := map_some h
            exact rs_appG (by rw [ok.N]; exact q1) (by rw [ok.sc]; exact q2) q3 q4 (fOf_ok R ok h2) rfl (few1 hpl) hl (plain_star hpl) rfl (noComp_sw rfl _ _)
        · cases h
      · cases h
    · split at h
      · obtain ⟨u, h2, rfl⟩ := map_some h
        exact rs_deep (rs_ret (fOf_ok R (minus_ok ok _) h2))
      · cases h
    · cases h
  · cases h
def rules3 : Rules where
  v := vIxG :: rules2.v
  i := rules2.i
  s := sPile :: rules2.s
theorem rules3_ok : RulesOk rules3 where
  v := fun f hf => by
    rcases List.mem_cons.mp hf with rfl | hf
    · exact vIxG_ok
    · exact rules2_ok.v f hf
  i := rules2_ok.i
  s := fun f hf => by
    rcases List.mem_cons.mp hf with rfl | hf
    · exact sPile_ok
    · exact rules2_ok.s f hf
end DL

namespace DL.K13
open PySem L2

/-! ### the plain law: heaviest rising choices -/
abbrev It2 := Int × Int
def above : Option Int → Int → Bool
  | none, _ => true
  | some x, v => decide (x < v)
/-- the greatest weight of a rising choice above lo -/
def mx : Option Int → List It2 → Int
  | _, [] => 0
  | lo, (v, w) :: r => if above lo v = true then max (w + mx (some v) r) (mx lo r) else mx lo r
/-- the choice taken from the left -/
def G : Option Int → Nat → List It2 → List Nat
  | _, _, [] => []
  | lo, k, (v, w) :: r => if (above lo v && decide (w + mx (some v) r = mx lo ((v, w) :: r))) = true then k :: G (some v) (k + 1) r else G lo (k + 1) r
theorem mx_cons (lo : Option Int) (v w : Int) (r : List It2) : mx lo ((v, w) :: r) = if above lo v = true then max (w + mx (some v) r) (mx lo r) else mx lo r := rfl
theorem G_cons (lo : Option Int) (k : Nat) (v w : Int) (r : List It2) : G lo k ((v, w) :: r) = if (above lo v && decide (w + mx (some v) r = mx lo ((v, w) :: r))) = true then k :: G (some v) (k + 1) r else G lo (k + 1) r := rfl
/-- rising choices of what stands from place k on, with their weights -/
inductive Feas : Option Int → Nat → List It2 → List Nat → Int → Prop
  | nil {lo k} : Feas lo k [] [] 0
  | take {lo k v w r c s} : above lo v = true → Feas (some v) (k + 1) r c s → Feas lo k ((v, w) :: r) (k :: c) (w + s)
  | skip {lo k v w r c s} : Feas lo (k + 1) r c s → Feas lo k ((v, w) :: r) c s
def Pos (l : List It2) : Prop := ∀ p ∈ l, 1 ≤ p.2
theorem Pos.tl {p : It2} {l : List It2} (h : Pos (p :: l)) : Pos l := fun q hq => h q (List.mem_cons_of_mem _ hq)
theorem mx_nn : ∀ (l : List It2) (lo : Option Int), Pos l → 0 ≤ mx lo l
  | [], _, _ => Int.le_refl _
  | (v, w) :: r, lo, h => by
    rw [mx_cons]
    have h1 := mx_nn r lo h.tl
    split
    · omega
    · exact h1
theorem feas_le {lo : Option Int} {k : Nat} {l : List It2} {c : List Nat} {s : Int} (f : Feas lo k l c s) (h : Pos l) : s ≤ mx lo l ∧ 0 ≤ s := by
  induction f with
  | nil => exact ⟨Int.le_refl _, Int.le_refl _⟩
  | @take lo k v w r c s a f ih =>
    have := ih h.tl
    have hw := h _ List.mem_cons_self
    rw [mx_cons]
    rw [if_pos a]
    simp only at hw
    omega
  | @skip lo k v w r c s f ih =>
    have := ih h.tl
    rw [mx_cons]
    split <;> omega
theorem G_feas : ∀ (l : List It2) (lo : Option Int) (k : Nat), Feas lo k l (G lo k l) (mx lo l)
  | [], lo, k => .nil
  | (v, w) :: r, lo, k => by
    rw [G_cons]
    split
    · rename_i h
      rw [Bool.and_eq_true, decide_eq_true_eq] at h
      rw [← h.2]
      exact .take h.1 (G_feas r (some v) (k + 1))
    · rename_i h
      have f := G_feas r lo (k + 1)
      have e : mx lo ((v, w) :: r) = mx lo r := by
        rw [Bool.and_eq_true, decide_eq_true_eq] at h
        rw [mx_cons]
        by_cases a : above lo v = true
        · rw [if_pos a]
          have : ¬ w + mx (some v) r = mx lo ((v, w) :: r) := fun z => h ⟨a, z⟩
          rw [mx_cons, if_pos a] at this
          omega
        · rw [if_neg a]
      rw [e]
      exact .skip f
theorem feas_ge {lo : Option Int} {k : Nat} {l : List It2} {c : List Nat} {s : Int} (f : Feas lo k l c s) : ∀ x ∈ c, k ≤ x := by
  induction f with
  | nil => intro x hx; cases hx
  | take a f ih =>
    intro x hx
    rcases List.mem_cons.mp hx with rfl | hx
    · exact Nat.le_refl _
    · exact Nat.le_of_succ_le (ih x hx)
  | skip f ih => exact fun x hx => Nat.le_of_succ_le (ih x hx)
/-- the choice from the left is the least of the heaviest -/
theorem G_least {lo : Option Int} {k : Nat} {l : List It2} {c : List Nat} {s : Int} (f : Feas lo k l c s) (h : Pos l) (e : s = mx lo l) : c = G lo k l ∨ G lo k l < c := by
  induction f with
  | nil => exact .inl rfl
  | @take lo k v w r c s a f ih =>
    have hle := (feas_le f h.tl).1
    have em : w + mx (some v) r = mx lo ((v, w) :: r) := by
      have : w + mx (some v) r ≤ mx lo ((v, w) :: r) := by
        rw [mx_cons]
        rw [if_pos a]
        omega
      omega
    have es : s = mx (some v) r := by omega
    have hg : G lo k ((v, w) :: r) = k :: G (some v) (k + 1) r := by
      rw [G_cons]
      rw [if_pos (by rw [a, Bool.true_and, decide_eq_true_eq]; exact em)]
    rw [hg]
    rcases ih h.tl es with q | q
    · exact .inl (by rw [q])
    · exact .inr (List.cons_lt_cons_self.mpr q)
  | @skip lo k v w r c s f ih =>
    have hle := (feas_le f h.tl).1
    rw [G_cons]
    split
    · rename_i hc
      rw [Bool.and_eq_true, decide_eq_true_eq] at hc
      have hw := h _ List.mem_cons_self
      simp only at hw
      have h0 := mx_nn r (some v) h.tl
      have hs : 1 ≤ s := by omega
      right
      cases c with
      | nil =>
        have : ∀ {lo k r s}, Feas lo k r [] s → s = 0 := by
          intro lo k r s f
          generalize hc : ([] : List Nat) = c at f
          induction f with
          | nil => rfl
          | take => cases hc
          | skip f ih => exact ih hc
        have := this f
        omega
      | cons x c =>
        have := feas_ge f x List.mem_cons_self
        exact List.Lex.rel (by omega)
    · rename_i hc
      have : s = mx lo r := by
        have h2 : mx lo ((v, w) :: r) = mx lo r ∨ mx lo r ≤ mx lo ((v, w) :: r) := by
          right
          rw [mx_cons]
          split <;> omega
        rcases h2 with q | q <;> omega
      exact ih h.tl this
end DL.K13

namespace DL.K13
open PySem L2

def valI (l : List It2) (i : Nat) : Int := (l.getD i (0, 0)).1
def wtI (l : List It2) (i : Nat) : Int := (l.getD i (0, 0)).2
def wsum (l : List It2) (c : List Nat) : Int := (c.map (wtI l)).sum
theorem drop_hd {l : List It2} {k : Nat} {p : It2} {r : List It2} (e : l.drop k = p :: r) : k < l.length ∧ l.getD k (0, 0) = p ∧ l.drop (k + 1) = r := by
  have hk : k < l.length := by
    rcases Nat.lt_or_ge k l.length with h | h
    · exact h
    · rw [List.drop_of_length_le h] at e; cases e
  rw [List.drop_eq_getElem_cons hk] at e
  have h1 := (List.cons.inj e).1
  have h2 := (List.cons.inj e).2
  exact ⟨hk, by rw [List.getD_eq_getElem?_getD, List.getElem?_eq_getElem hk]; exact h1, h2⟩
def Up (l : List It2) (c : List Nat) : Prop := c.Pairwise (fun a b => a < b) ∧ c.Pairwise fun a b => valI l a < valI l b
theorem feas_of {l : List It2} : ∀ (r : List It2) (k : Nat) (lo : Option Int) (c : List Nat), l.drop k = r → Up l c → (∀ x ∈ c, k ≤ x ∧ x < l.length) → (∀ x ∈ c, above lo (valI l x) = true) → Feas lo k r c (wsum l c)
  | [], k, lo, c, e, _, hb, _ => by
    have hl : l.length ≤ k := by
      rcases Nat.lt_or_ge k l.length with h | h
      · rw [List.drop_eq_getElem_cons h] at e; cases e
      · exact h
    cases c with
    | nil => exact .nil
    | cons x c => have := hb x List.mem_cons_self; omega
  | (v, w) :: r, k, lo, c, e, up, hb, ha => by
    obtain ⟨hk, hg, ht⟩ := drop_hd e
    cases c with
    | nil => exact .skip (feas_of r (k + 1) lo [] ht up (fun x hx => by cases hx) fun x hx => by cases hx)
    | cons x c =>
      obtain ⟨u1, u2⟩ := up
      rw [List.pairwise_cons] at u1 u2
      have hx := hb x List.mem_cons_self
      by_cases hxk : x = k
      · subst hxk
        have ev : valI l x = v := by unfold valI; rw [hg]
        have ew : wtI l x = w := by unfold wtI; rw [hg]
        have ax := ha x List.mem_cons_self
        rw [ev] at ax
        show Feas lo x ((v, w) :: r) (x :: c) (wtI l x + wsum l c)
        rw [ew]
        refine .take ax (feas_of r (x + 1) (some v) c ht ⟨u1.2, u2.2⟩ (fun y hy => ⟨u1.1 y hy, (hb y (List.mem_cons_of_mem _ hy)).2⟩) fun y hy => ?_)
        have := u2.1 y hy
        rw [ev] at this
        exact decide_eq_true this
      · refine .skip (feas_of r (k + 1) lo (x :: c) ht ⟨List.pairwise_cons.mpr u1, List.pairwise_cons.mpr u2⟩ (fun y hy => ?_) ha)
        have hy1 := hb y hy
        rcases List.mem_cons.mp hy with rfl | hy2
        · omega
        · have := u1.1 y hy2; omega
theorem of_feas {l : List It2} {lo : Option Int} {k : Nat} {r : List It2} {c : List Nat} {s : Int} (f : Feas lo k r c s) : l.drop k = r → Up l c ∧ (∀ x ∈ c, k ≤ x ∧ x < l.length) ∧ (∀ x ∈ c, above lo (valI l x) = true) ∧ s = wsum l c := by
  induction f with
  | nil => exact fun _ => ⟨⟨.nil, .nil⟩, fun x hx => (by cases hx), fun x hx => (by cases hx), rfl⟩
  | @take lo k v w r c s a f ih =>
    intro e
    obtain ⟨hk, hg, ht⟩ := drop_hd e
    obtain ⟨⟨u1, u2⟩, hb, ha, hs⟩ := ih ht
    have ev : valI l k = v := by unfold valI; rw [hg]
    have ew : wtI l k = w := by unfold wtI; rw [hg]
    refine ⟨⟨List.pairwise_cons.mpr ⟨fun y hy => (hb y hy).1, u1⟩, List.pairwise_cons.mpr ⟨fun y hy => ?_, u2⟩⟩, fun y hy => ?_, fun y hy => ?_, ?_⟩
    · have := ha y hy
      rw [ev]
      exact of_decide_eq_true this
    · rcases List.mem_cons.mp hy with rfl | hy
      · exact ⟨Nat.le_refl _, hk⟩
      · have := hb y hy; omega
    · rcases List.mem_cons.mp hy with rfl | hy
      · rw [ev]; exact a
      · have := ha y hy
        have h2 := of_decide_eq_true this
        cases lo with
        | none => rfl
        | some u =>
          have h3 : u < v := of_decide_eq_true a
          exact decide_eq_true (by omega)
    · show w + s = wtI l k + wsum l c
      rw [ew, hs]
  | @skip lo k v w r c s f ih =>
    intro e
    obtain ⟨hk, hg, ht⟩ := drop_hd e
    obtain ⟨u, hb, ha, hs⟩ := ih ht
    exact ⟨u, fun y hy => by have := hb y hy; omega, ha, hs⟩

/-! ### all choices -/
def subs : Nat → List (List Nat)
  | 0 => [[]]
  | n + 1 => subs n ++ (subs n).map fun c => c ++ [n]
theorem mem_subs : ∀ (n : Nat) (c : List Nat), c ∈ subs n ↔ c.Pairwise (fun a b => a < b) ∧ ∀ x ∈ c, x < n
  | 0, c => by
    unfold subs
    rw [List.mem_singleton]
    constructor
    · rintro rfl; exact ⟨.nil, fun x hx => by cases hx⟩
    · rintro ⟨_, h⟩
      cases c with
      | nil => rfl
      | cons x c => exact absurd (h x List.mem_cons_self) (Nat.not_lt_zero _)
  | n + 1, c => by
    unfold subs
    rw [List.mem_append, mem_subs n, List.mem_map]
    constructor
    · rintro (⟨h1, h2⟩ | ⟨d, hd, rfl⟩)
      · exact ⟨h1, fun x hx => Nat.lt_succ_of_lt (h2 x hx)⟩
      · rw [mem_subs n] at hd
        refine ⟨List.pairwise_append.mpr ⟨hd.1, List.pairwise_singleton _ _, fun a ha b hb => ?_⟩, fun x hx => ?_⟩
        · rw [List.mem_singleton] at hb
          subst hb
          exact hd.2 a ha
        · rcases List.mem_append.mp hx with hx | hx
          · exact Nat.lt_succ_of_lt (hd.2 x hx)
          · rw [List.mem_singleton] at hx; omega
    · rintro ⟨h1, h2⟩
      by_cases hn : n ∈ c
      · right
        obtain ⟨a, b, rfl⟩ := List.append_of_mem hn
        rw [List.pairwise_append, List.pairwise_cons] at h1
        obtain ⟨p1, ⟨p2, _⟩, p3⟩ := h1
        have hb : b = [] := by
          cases b with
          | nil => rfl
          | cons y b =>
            have q1 := p2 y List.mem_cons_self
            have q2 := h2 y (by simp)
            omega
        subst hb
        exact ⟨a, (mem_subs n a).mpr ⟨p1, fun x hx => p3 x hx n List.mem_cons_self⟩, rfl⟩
      · left
        refine ⟨h1, fun x hx => ?_⟩
        have := h2 x hx
        have : x ≠ n := fun e => hn (e ▸ hx)
        omega

/-! ### the best from each place on -/
def bestL : List It2 → List Int
  | [] => []
  | (v, w) :: r => (w + mx (some v) r) :: bestL r
theorem bestL_len : ∀ l : List It2, (bestL l).length = l.length
  | [] => rfl
  | _ :: r => by unfold bestL; rw [List.length_cons, List.length_cons, bestL_len r]
def beh (u : Int) (r : List It2) : List Int := ((List.range r.length).filter fun i => decide (u < (r.getD i (0, 0)).1)).map fun i => (bestL r).getD i 0
def maxZ (l : List Int) : Int := l.foldl max 0
theorem foldl_max : ∀ (l : List Int) (a : Int), 0 ≤ a → l.foldl max a = max a (maxZ l)
  | [], a, h => by unfold maxZ; simp only [List.foldl_nil]; omega
  | b :: r, a, h => by
    unfold maxZ
    rw [List.foldl_cons, List.foldl_cons, foldl_max r (max a b) (by omega), foldl_max r (max 0 b) (by omega)]
    omega
theorem maxZ_cons (a : Int) (r : List Int) (h : 0 ≤ a) : maxZ (a :: r) = max a (maxZ r) := by
  have : maxZ (a :: r) = r.foldl max (max 0 a) := rfl
  rw [this, foldl_max r _ (by omega)]
  omega
theorem beh_cons (u v w : Int) (r : List It2) : beh u ((v, w) :: r) = (if decide (u < v) = true then [w + mx (some v) r] else []) ++ beh u r := by
  unfold beh
  rw [List.length_cons, List.range_succ_eq_map, List.filter_cons, List.filter_map]
  have e : ((fun i => decide (u < (((v, w) :: r).getD i (0, 0)).1)) ∘ Nat.succ) = fun i => decide (u < (r.getD i (0, 0)).1) := rfl
  rw [e]
  show List.map _ (if decide (u < v) = true then _ else _) = _
  split
  · rw [List.map_cons, List.map_map]
    rfl
  · rw [List.map_map]
    rfl
theorem maxZ_beh (u : Int) : ∀ r : List It2, Pos r → maxZ (beh u r) = mx (some u) r
  | [], _ => rfl
  | (v, w) :: r, h => by
    have ih := maxZ_beh u r h.tl
    have hw := h _ List.mem_cons_self
    simp only at hw
    have h0 := mx_nn r (some v) h.tl
    rw [beh_cons, mx_cons]
    show _ = if decide (u < v) = true then _ else _
    split
    · rw [List.singleton_append, maxZ_cons _ _ (by omega), ih]
    · rw [List.nil_append, ih]
theorem maxZ_best : ∀ r : List It2, Pos r → maxZ (bestL r) = mx none r
  | [], _ => rfl
  | (v, w) :: r, h => by
    have hw := h _ List.mem_cons_self
    simp only at hw
    have h0 := mx_nn r (some v) h.tl
    unfold bestL
    rw [mx_cons, maxZ_cons _ _ (by omega), maxZ_best r h.tl]
    rfl
theorem best_at : ∀ (l : List It2) (k : Nat) (v w : Int) (r : List It2), l.drop k = (v, w) :: r → (bestL l)[k]? = some (w + mx (some v) r)
  | [], k, v, w, r, e => by rw [List.drop_nil] at e; cases e
  | p :: l, 0, v, w, r, e => by cases e; rfl
  | p :: l, k + 1, v, w, r, e => by
    obtain ⟨a, b⟩ := p
    show (bestL l)[k]? = _
    exact best_at l k v w r e
theorem best_drop : ∀ (l : List It2) (k : Nat), bestL (l.drop k) = (bestL l).drop k
  | [], k => by rw [List.drop_nil]; unfold bestL; rw [List.drop_nil]
  | p :: l, 0 => rfl
  | (a, b) :: l, k + 1 => by
    show bestL (l.drop k) = (bestL l).drop k
    exact best_drop l k
end DL.K13

namespace DL.K16
open PySem L2 DL.K13
local macro_rules | `(tactic| walk_at "dl") => `(tactic| simp only [ret, fail, bnd, frz, cC, cVar, bVar, cBin, cNeg, cNot, cAnd, cOr, cIf, vT, tCm, tCh, tTru, tNo, tAn, tOr', cNil, cCons, cTup, cLst, cIx, oNo, oIs, cSl, cCall, callD, cCallK, cB, sNil, sSeq, sDrop, sSet, sAsg, sPar, sRet, sRetN, sIf, sBrk, sCnt, sNo, sFor, sFrz, sApp, sPut, sSetU, uOf, uPop, uPopAt, isOwL, sAdopt,
  gNm, gTp, gsCons, gsNil, tYesD, cLc, iSeq, iRng, iEn, cIsi, cLRg, cBest, cSrtSet, cRev, iZp, cCallF, cCallKF, callF, sRetO, sRetF, tLend, frzE, cDct, prM, cJoin, cel, rgsM, len_lst, len_tup, len_dct, len_str, abs_int, list_lst, list_tup, tuple_lst, tuple_tup, items_lst, items_tup, items_str, enum_lst, enum_tup,
  bin_addI, bin_subI, bin_mulI, bin_divI, bin_modI, bin_powI, bin_addS, bin_addL, bin_addT, bin_mulL, bin_mulT, bin_mulS, cmp_eq, cmp_ne, cmp_lt, cmp_le, cmp_gt, cmp_ge, cmp_is, cmp_isnt, cmp_inS, cmp_ninS, eq_int, eq_str, ix_lst, ix_tup, tru_bl, tru_lst, tru_tup, tru_int, tru_non, non_non, non_int, non_str, non_bl, non_lst, non_tup, at_zero, at_one, at_two,
  isi_non, isi_bl, isi_int, isi_str, isi_lst, isi_tup, isi_dct, sub_tab, List.any_cons, List.any_nil, Bool.or_false, Bool.or_true, Bool.true_or, Bool.false_or, Bool.not_true, Bool.not_false,
  List.getElem?_cons_zero, List.getElem?_cons_succ, List.set_cons_zero, List.set_cons_succ, Bool.false_and, Bool.true_and, Bool.and_false, Bool.and_true, Bool.false_eq_true, if_true, if_false, ite_true, ite_false, List.length_cons, List.length_nil, List.length_map, true_and, and_true, ne_eq, not_true_eq_false, not_false_eq_true, reduceCtorEq, Nat.reduceAdd, Nat.zero_add, Int.cast_ofNat_Int, beq_self_eq_true, decide_true, decide_false, *])
local macro_rules | `(tactic| walk_at "dl0") => `(tactic| simp only [ret, fail, bnd, frz, cC, cVar, bVar, cBin, cNeg, cNot, cAnd, cOr, cIf, vT, tCm, tCh, tTru, tNo, tAn, tOr', cNil, cCons, cTup, cLst, cIx, oNo, oIs, cSl, cCall, callD, cCallK, cB, sNil, sSeq, sDrop, sSet, sAsg, sPar, sRet, sRetN, sIf, sBrk, sCnt, sNo, sFor, sFrz, sApp, sPut, sSetU, uOf, uPop, uPopAt, isOwL, sAdopt,
  gNm, gTp, gsCons, gsNil, tYesD, cLc, iSeq, iRng, iEn, cIsi, cLRg, cBest, cSrtSet, cRev, iZp, cCallF, cCallKF, callF, sRetO, sRetF, tLend, frzE, cDct, prM, cJoin, cel, rgsM, len_lst, len_tup, len_dct, len_str, abs_int, list_lst, list_tup, tuple_lst, tuple_tup, items_lst, items_tup, items_str, enum_lst, enum_tup,
  bin_addI, bin_subI, bin_mulI, bin_divI, bin_modI, bin_powI, bin_addS, bin_addL, bin_addT, bin_mulL, bin_mulT, bin_mulS, cmp_eq, cmp_ne, cmp_lt, cmp_le, cmp_gt, cmp_ge, cmp_is, cmp_isnt, cmp_inS, cmp_ninS, eq_int, eq_str, ix_lst, ix_tup, tru_bl, tru_lst, tru_tup, tru_int, tru_non, non_non, non_int, non_str, non_bl, non_lst, non_tup, at_zero, at_one, at_two,
  isi_non, isi_bl, isi_int, isi_str, isi_lst, isi_tup, isi_dct, sub_tab, List.any_cons, List.any_nil, Bool.or_false, Bool.or_true, Bool.true_or, Bool.false_or, Bool.not_true, Bool.not_false,
  List.getElem?_cons_zero, List.getElem?_cons_succ, List.set_cons_zero, List.set_cons_succ, Bool.false_and, Bool.true_and, Bool.and_false, Bool.and_true, Bool.false_eq_true, if_true, if_false, ite_true, ite_false, List.length_cons, List.length_nil, List.length_map, true_and, and_true, ne_eq, not_true_eq_false, not_false_eq_true, reduceCtorEq, Nat.reduceAdd, Nat.zero_add, Int.cast_ofNat_Int, beq_self_eq_true, decide_true, decide_false])
def itD (p : It2) : D := .tup [.int p.1, .int p.2]
def itsD (l : List It2) : List D := l.map itD
def Small (l : List It2) : Prop := ∀ p ∈ l, p.1.natAbs < 10 ^ 19 ∧ p.2.natAbs < 10 ^ 19
structure Ok (l : List It2) : Prop where
  pos : Pos l
  nd : (l.map fun p => p.1).Nodup
  len : l.length ≤ 250
def isIts (d : D) (l : List It2) : Prop := d = .lst (itsD l) ∨ d = .tup (itsD l)
theorem its_at {l : List It2} {i : Int} (h0 : 0 ≤ i) (h1 : i < l.length) : atI (itsD l) i = some (.tup [.int (valI l i.toNat), .int (wtI l i.toNat)]) := by
  obtain ⟨n, rfl⟩ : ∃ n : Nat, i = n := ⟨i.toNat, by omega⟩
  have hn : n < l.length := by omega
  rw [at_nat (by unfold itsD; rw [List.length_map]; exact hn)]
  unfold itsD valI wtI
  rw [List.getElem_map, Int.toNat_natCast, List.getD_eq_getElem?_getD, List.getElem?_eq_getElem hn]
  rfl
def intN (c : List Nat) : List D := c.map fun i => .int (i : Nat)
theorem its_len (l : List It2) : (itsD l).length = l.length := by unfold itsD; rw [List.length_map]
theorem intN_eq (c : List Nat) : intN c = (c.map fun i : Nat => (i : Int)).map D.int := by unfold intN; rw [List.map_map]; rfl
theorem intN_py (c : List Nat) : pyOk (intN c) := by
  intro d hd
  unfold intN at hd
  obtain ⟨i, _, rfl⟩ := List.mem_map.mp hd
  exact ⟨_, rfl, rfl, Nat.zero_le _⟩
theorem enum_at {l : List It2} {i : Nat} {x : D} (h : (enumD (itsD l))[i]? = some x) : ∃ v w r, l.drop i = (v, w) :: r ∧ x = .tup [.int i, .tup [.int v, .int w]] := by
  obtain ⟨a, b, rfl, h1, h2⟩ := pairs_at h
  have hi := lt_of_at h2
  rw [its_len] at hi
  refine ⟨l[i].1, l[i].2, l.drop (i + 1), List.drop_eq_getElem_cons hi, ?_⟩
  have ha := upto_at h1
  have e : (0 : Int) + (i : Nat) * 1 = (i : Nat) := by omega
  rw [e] at ha
  unfold itsD at h2
  rw [List.getElem?_map, List.getElem?_eq_getElem hi] at h2
  cases h2
  rw [ha]
  rfl
theorem its_ix {l : List It2} {d : D} (hd : isIts d l) {i : Nat} (h : i < l.length) {Q : D → Prop} {E : Xn → Prop} (q : Q (.tup [.int (valI l i), .int (wtI l i)])) : ixM d (.int (i : Nat)) Q E := by
  have a := its_at (l := l) (i := (i : Int)) (by omega) (by omega)
  rw [Int.toNat_natCast] at a
  rcases hd with rfl | rfl
  · show match atI (itsD l) i with | some d => Q d | none => False
    rw [a]; exact q
  · show match atI (itsD l) i with | some d => Q d | none => False
    rw [a]; exact q
theorem lc_at {l : List It2} {d : D} (hd : isIts d l) {cc : List Nat} (hc : ∀ x ∈ cc, x < l.length) {e : CB} {ρ : Env} {j : Nat} {f : Nat → Int} {Q : List D → Prop} {E : Xn → Prop} (he : ∀ i, i < l.length → ∀ Q : D → Prop, Q (.int (f i)) → e (ρ.set j (.sh (.int (i : Nat)))) Q E)
    (q : Q ((cc.map f).map D.int)) : lcM (gNm j) tYesD e ρ (intN cc) Q E := by
  refine lc_map (fun x => match x with | .int i => .int (f i.toNat) | x => x) (fun x hx Q q => ?_) ?_
  · unfold intN at hx
    obtain ⟨i, hi, rfl⟩ := List.mem_map.mp hx
    exact he i (hc i hi) Q q
  · have : (intN cc).map (fun x => match x with | .int i => D.int (f i.toNat) | x => x) = (cc.map f).map D.int := by
      unfold intN
      rw [List.map_map, List.map_map]
      rfl
    rw [this]; exact q
theorem intN_len (c : List Nat) : (intN c).length = c.length := by unfold intN; rw [List.length_map]
theorem sum_ints {ns : List Int} {Q : D × Bool → Prop} {E : Xn → Prop} (q : Q (.int ns.sum, false)) : sumM [.lst (ns.map D.int)] Q E := by
  show match intsD (ns.map D.int) with | some ns => Q (.int ns.sum, false) | none => False
  rw [intsD_map]; exact q
/-! ### the text by places, the mirrors of its defs (printed) -/
def top (i : Nat) : Stmt := PySem.Challenge.pw_viewturns_k16_whole_choices_against_cove.main.body.getD i (.Pass ⟨0, 0, 0, 0⟩)
def gl0 : List (Str × GV) := [("abs", .bi "abs" absM), ("all", .bi "all" allM), ("bool", .ty "bool" noM), ("dict", .ty "dict" dictM), ("enumerate", .sp), ("int", .ty "int" noM), ("isinstance", .sp), ("len", .bi "len" lenM), ("list", .ty "list" listM), ("max", .bi "max" (bestsM true)), ("range", .sp), ("sorted", .bi "sorted" sortedM2), ("sum", .bi "sum" sumM), ("tuple", .ty "tuple" tupleM), ("zip", .sp)]
abbrev Free (mg : Str → Option Value) : Prop := mg "abs" = none ∧ mg "all" = none ∧ mg "bool" = none ∧ mg "dict" = none ∧ mg "enumerate" = none ∧ mg "int" = none ∧ mg "isinstance" = none ∧ mg "len" = none ∧ mg "list" = none ∧ mg "max" = none ∧ mg "range" = none ∧ mg "sorted" = none ∧ mg "sum" = none ∧ mg "tuple" = none ∧ mg "zip" = none

/-! is_integer -/
abbrev s_is_integer : Stmt := top 4
abbrev N_is_integer : List Str := (["value"] : List Str)
theorem sc_is_integer : FnScope N_is_integer ["value"] (defScope s_is_integer) := ⟨rfl, rfl, rfl, by decide +kernel, rfl, by decide +kernel, by decide +kernel⟩
def c_is_integer : CS := sRet (frz (cAnd (cIsi (bVar 0) [.int]) (cNot (frz (cIsi (bVar 0) [.bl])))))
theorem e_is_integer : ssOf (recN rules3 40) (mkSg N_is_integer (defScope s_is_integer) gl0 []) (defBody s_is_integer) = some c_is_integer := by kernel_rfl
def m_is_integer : List D → M D
  | [d] => fun Q _ => match tyN d with | some t => Q (.bl (decide (t = .int))) | none => False
  | _ => fail

def gl_is_integer : List (Str × GV) := ("is_integer", .fn 1 m_is_integer []) :: gl0

/-! is_item -/
abbrev s_is_item : Stmt := top 5
abbrev N_is_item : List Str := (["value"] : List Str)
theorem sc_is_item : FnScope N_is_item ["value"] (defScope s_is_item) := ⟨rfl, rfl, rfl, by decide +kernel, rfl, by decide +kernel, by decide +kernel⟩
def c_is_item : CS := sSeq (sIf (tOr' (tNo (tTru (frz (cIsi (bVar 0) [.tup])))) (tCm .NotEq (frz (cB lenM (cCons (bVar 0) (cNil)))) (frz (cC (.int 2))))) (sRet (frz (cC (.bl false)))) (sNil)) (sRet (frz (cAnd (cCall 1 m_is_integer (cCons (frz (cIx (bVar 0) (frz (cC (.int 0))))) (cNil))) (cAnd (cCall 1 m_is_integer (cCons (frz (cIx (bVar 0) (frz (cC (.int 1))))) (cNil))) (vT (tCm .GtE (frz (cIx (bVar 0) (frz (cC (.int 1))))) (frz (cC (.int 1)))))))))
theorem e_is_item : ssOf (recN rules3 40) (mkSg N_is_item (defScope s_is_item) gl_is_integer []) (defBody s_is_item) = some c_is_item := by kernel_rfl
def m_is_item : List D → M D
  | [.tup [.int v, .int w]] => fun Q _ => Q (.bl (decide (1 ≤ w)))
  | _ => fail

def gl_is_item : List (Str × GV) := ("is_item", .fn 1 m_is_item []) :: gl_is_integer

/-! need_items -/
abbrev s_need_items : Stmt := top 6
abbrev N_need_items : List Str := (["items", "item"] : List Str)
theorem sc_need_items : FnScope N_need_items ["items"] (defScope s_need_items) := ⟨rfl, rfl, rfl, by decide +kernel, rfl, by decide +kernel, by decide +kernel⟩
def c_need_items : CS := sSeq (sIf (tOr' (tNo (tTru (frz (cIsi (bVar 0) [.lst, .tup])))) (tNo (tTru (frz (cB allM (cCons (frz (cLc [1] (iSeq (frz (cVar 0))) (gNm 1) (tYesD) (frz (cCall 1 m_is_item (cCons (frz (cVar 1)) (cNil)))))) (cNil))))))) (sNo) (sNil)) (sIf (tCm .NotEq (frz (cB lenM (cCons (frz (cB dictM (cCons (frz (cLc [1] (iSeq (frz (cVar 0))) (gNm 1) (tYesD) (frz (cTup (cCons (frz (cIx (bVar 1) (frz (cC (.int 0))))) (cCons (frz (cC (.bl true))) (cNil))))))) (cNil)))) (cNil)))) (frz (cB lenM (cCons (bVar 0) (cNil))))) (sNo) (sNil))
theorem e_need_items : ssOf (recN rules3 40) (mkSg N_need_items (defScope s_need_items) gl_is_item []) (defBody s_need_items) = some c_need_items := by kernel_rfl
def m_need_items : List D → M D
  | [d] => fun Q _ => ∃ l, isIts d l ∧ Ok l ∧ Q .non
  | _ => fail

def gl_need_items : List (Str × GV) := ("need_items", .fn 1 m_need_items []) :: gl_is_item

/-! weights_from -/
abbrev s_weights_from : Stmt := top 7
abbrev N_weights_from : List Str := (["items", "found", "at", "value", "weight", "behind", "other"] : List Str)
theorem sc_weights_from : FnScope N_weights_from ["items"] (defScope s_weights_from) := ⟨rfl, rfl, rfl, by decide +kernel, rfl, by decide +kernel, by decide +kernel⟩
def c_weights_from : CS := sSeq (sSet 1 true (cBin .Mult (frz (cLst (cCons (frz (cC (.int 0))) (cNil)))) (frz (cB lenM (cCons (bVar 0) (cNil)))))) (sSeq (sFor (iRng (cCons (frz (cBin .Sub (frz (cB lenM (cCons (bVar 0) (cNil)))) (frz (cC (.int 1))))) (cCons (frz (cNeg (frz (cC (.int 1))))) (cCons (frz (cNeg (frz (cC (.int 1))))) (cNil))))) (gNm 2) (sSeq (sAsg (gTp 2 (gsCons (gNm 3) (gsCons (gNm 4) (gsNil)))) (frz (cIx (bVar 0) (bVar 2)))) (sSeq (sSet 5 false (cLc [6] (iRng (cCons (frz (cBin .Add (bVar 2) (frz (cC (.int 1))))) (cCons (frz (cB lenM (cCons (bVar 0) (cNil)))) (cNil)))) (gNm 6) (tCm .Gt (frz (cIx (frz (cIx (bVar 0) (bVar 6))) (frz (cC (.int 0))))) (bVar 3)) (frz (cIx (bVar 1) (bVar 6))))) (sPut 1 (frz (cBin .Add (bVar 4) (frz (cBest true (cCons (bVar 5) (cNil)) (frz (cC (.int 0))))))) (frz (cVar 2)))))) (sFrz 1 (sRet (frz (cVar 1)))))
theorem e_weights_from : ssOf (recN rules3 40) (mkSg N_weights_from (defScope s_weights_from) gl_need_items [1]) (defBody s_weights_from) = some c_weights_from := by kernel_rfl
def m_weights_from : List D → M D
  | [d] => fun Q _ => ∃ l, isIts d l ∧ Pos l ∧ l.length ≤ 250 ∧ Q (.lst ((bestL l).map .int))
  | _ => fail

def gl_weights_from : List (Str × GV) := ("weights_from", .fn 1 m_weights_from []) :: gl_need_items

/-! weights_up_to -/
abbrev s_weights_up_to : Stmt := top 8
abbrev N_weights_up_to : List Str := (["items", "found", "at", "value", "weight", "ahead", "other"] : List Str)
theorem sc_weights_up_to : FnScope N_weights_up_to ["items"] (defScope s_weights_up_to) := ⟨rfl, rfl, rfl, by decide +kernel, rfl, by decide +kernel, by decide +kernel⟩
def c_weights_up_to : CS := sSeq (sSet 1 true (cLst (cNil))) (sSeq (sFor (iEn (cCons (frz (cVar 0)) (cNil))) (gTp 2 (gsCons (gNm 2) (gsCons (gTp 2 (gsCons (gNm 3) (gsCons (gNm 4) (gsNil)))) (gsNil)))) (sSeq (sSet 5 false (cLc [6] (iRng (cCons (frz (cVar 2)) (cNil))) (gNm 6) (tCm .Lt (frz (cIx (frz (cIx (bVar 0) (bVar 6))) (frz (cC (.int 0))))) (bVar 3)) (frz (cIx (bVar 1) (bVar 6))))) (sApp 1 (uOf (frz (cBin .Add (bVar 4) (frz (cBest true (cCons (bVar 5) (cNil)) (frz (cC (.int 0))))))))))) (sFrz 1 (sRet (frz (cVar 1)))))
theorem e_weights_up_to : ssOf (recN rules3 40) (mkSg N_weights_up_to (defScope s_weights_up_to) gl_weights_from [1]) (defBody s_weights_up_to) = some c_weights_up_to := by kernel_rfl
/-- the greatest weight of a choice that ends at each item -/
def tops (l : List It2) : Nat → List Int
  | 0 => []
  | k + 1 => tops l k ++ [wtI l k + maxZ (((List.range k).filter fun o => decide (valI l o < valI l k)).map fun o => (tops l k).getD o 0)]
def T (l : List It2) : List Int := tops l l.length
def m_weights_up_to : List D → M D
  | [d] => fun Q _ => ∃ l, isIts d l ∧ Pos l ∧ l.length ≤ 250 ∧ Q (.lst ((T l).map .int))
  | _ => fail

def gl_weights_up_to : List (Str × GV) := ("weights_up_to", .fn 1 m_weights_up_to []) :: gl_weights_from

/-! heaviest -/
abbrev s_heaviest : Stmt := top 9
abbrev N_heaviest : List Str := (["items", "best", "left", "choice", "at", "value", "weight", "fits"] : List Str)
theorem sc_heaviest : FnScope N_heaviest ["items"] (defScope s_heaviest) := ⟨rfl, rfl, rfl, by decide +kernel, rfl, by decide +kernel, by decide +kernel⟩
def c_heaviest : CS := sSeq (sDrop (cCall 1 m_need_items (cCons (frz (cVar 0)) (cNil)))) (sSeq (sSet 1 false (cCall 1 m_weights_from (cCons (frz (cVar 0)) (cNil)))) (sSeq (sPar 2 3 false false (cBest true (cCons (bVar 1) (cNil)) (frz (cC (.int 0)))) (cTup (cNil))) (sSeq (sFor (iEn (cCons (frz (cVar 0)) (cNil))) (gTp 2 (gsCons (gNm 4) (gsCons (gTp 2 (gsCons (gNm 5) (gsCons (gNm 6) (gsNil)))) (gsNil)))) (sSeq (sSet 7 false (cOr (vT (tCm .Eq (bVar 3) (frz (cTup (cNil))))) (vT (tCm .Lt (frz (cIx (frz (cIx (bVar 0) (frz (cIx (bVar 3) (frz (cNeg (frz (cC (.int 1))))))))) (frz (cC (.int 0))))) (bVar 5))))) (sIf (tAn (tCm .Gt (bVar 2) (frz (cC (.int 0)))) (tAn (tTru (bVar 7)) (tCm .Eq (frz (cIx (bVar 1) (bVar 4))) (bVar 2)))) (sSeq (sSet 3 false (cBin .Add (bVar 3) (frz (cTup (cCons (frz (cVar 4)) (cNil)))))) (sSet 2 false (cBin .Sub (bVar 2) (bVar 6)))) (sNil)))) (sRet (frz (cVar 3))))))
theorem e_heaviest : ssOf (recN rules3 40) (mkSg N_heaviest (defScope s_heaviest) gl_weights_up_to []) (defBody s_heaviest) = some c_heaviest := by kernel_rfl
def m_heaviest : List D → M D
  | [d] => fun Q _ => ∃ l, isIts d l ∧ Ok l ∧ Q (.tup (intN (G none 0 l)))
  | _ => fail

def gl_heaviest : List (Str × GV) := ("heaviest", .fn 1 m_heaviest []) :: gl_weights_up_to

/-! cover -/
abbrev s_cover : Stmt := top 10
abbrev N_cover : List Str := (["items", "tops", "spans", "item", "top", "levels", "span", "level", "found", "low", "high", "fall", "at"] : List Str)
theorem sc_cover : FnScope N_cover ["items"] (defScope s_cover) := ⟨rfl, rfl, rfl, by decide +kernel, rfl, by decide +kernel, by decide +kernel⟩
def c_cover : CS := sSeq (sDrop (cCall 1 m_need_items (cCons (frz (cVar 0)) (cNil)))) (sSeq (sSet 1 false (cCall 1 m_weights_up_to (cCons (frz (cVar 0)) (cNil)))) (sSeq (sSet 2 false (cLc [3, 4] (iZp (cCons (frz (cVar 0)) (cCons (frz (cVar 1)) (cNil)))) (gTp 2 (gsCons (gNm 3) (gsCons (gNm 4) (gsNil)))) (tYesD) (frz (cTup (cCons (frz (cBin .Sub (bVar 4) (frz (cIx (bVar 3) (frz (cC (.int 1))))))) (cCons (frz (cVar 4)) (cNil))))))) (sSeq (sSet 5 false (cB sortedM2 (cCons (frz (cB dictM (cCons (frz (cLc2 [6, 7] [7] (iSeq (frz (cVar 2))) (gNm 6) (tYesD) (iSeq (frz (cVar 6))) (gNm 7) (tYesD) (frz (cTup (cCons (frz (cVar 7)) (cCons (frz (cC (.bl true))) (cNil))))))) (cNil)))) (cNil)))) (sSeq (sSet 8 true (cLst (cNil))) (sSeq (sFor (iZp (cCons (frz (cVar 5)) (cCons (frz (cSl (bVar 5) (oIs (frz (cC (.int 1)))) (oNo))) (cNil)))) (gTp 2 (gsCons (gNm 9) (gsCons (gNm 10) (gsNil)))) (sSeq (sSet 11 false (cB tupleM (cCons (frz (cLc [12, 6] (iEn (cCons (frz (cVar 2)) (cNil))) (gTp 2 (gsCons (gNm 12) (gsCons (gNm 6) (gsNil)))) (tAn (tCm .LtE (frz (cIx (bVar 6) (frz (cC (.int 0))))) (bVar 9)) (tCm .LtE (bVar 10) (frz (cIx (bVar 6) (frz (cC (.int 1))))))) (frz (cVar 12)))) (cNil)))) (sApp 8 (uOf (frz (cTup (cCons (frz (cVar 11)) (cCons (frz (cBin .Sub (bVar 10) (bVar 9))) (cNil))))))))) (sRetO 8))))))
theorem e_cover : ssOf (recN rules3 40) (mkSg N_cover (defScope s_cover) gl_heaviest [8] true) (defBody s_cover) = some c_cover := by kernel_rfl
structure FallOk (l : List It2) (c : List Nat × Int) : Prop where
  up : c.1.Pairwise (· < ·)
  lt : ∀ x ∈ c.1, x < l.length
  num : 1 ≤ c.2
  down : c.1.Pairwise fun a b => valI l b ≤ valI l a
def spL (l : List It2) : List It2 := List.zipWith (fun (p : It2) (t : Int) => (t - p.2, t)) l (T l)
def lvK (l : List It2) : List Int := (mergeG [] ((spL l).flatMap fun p => [((Sum.inl p.1 : Key), D.bl true), (Sum.inl p.2, D.bl true)])).filterMap fun x => match x.1 with | .inl i => some i | _ => none
/-- the levels in order -/
def lvL (l : List It2) : List Int := srtI (lvK l)
def fallL (sp : List It2) (a b : Int) : List Nat := (List.range sp.length).filter fun i => decide (valI sp i ≤ a) && decide (b ≤ wtI sp i)
def covL (l : List It2) : List (List Nat × Int) := List.zipWith (fun (a b : Int) => (fallL (spL l) a b, b - a)) (lvL l) ((lvL l).drop 1)
def covD (c : List Nat × Int) : D := .tup [.tup (intN c.1), .int c.2]
def m_cover : List D → M D
  | [d] => fun Q _ => ∃ l, isIts d l ∧ Ok l ∧ Q (.lst ((covL l).map covD))
  | _ => fail

def gl_cover : List (Str × GV) := ("cover", .fo 1 m_cover []) :: gl_heaviest

/-! are_indexes -/
abbrev s_are_indexes : Stmt := top 11
abbrev N_are_indexes : List Str := (["items", "value", "at", "one", "other"] : List Str)
theorem sc_are_indexes : FnScope N_are_indexes ["items", "value"] (defScope s_are_indexes) := ⟨rfl, rfl, rfl, by decide +kernel, rfl, by decide +kernel, by decide +kernel⟩
def c_are_indexes : CS := sSeq (sIf (tOr' (tNo (tTru (frz (cIsi (bVar 1) [.tup])))) (tNo (tTru (frz (cB allM (cCons (frz (cLc [2] (iSeq (frz (cVar 1))) (gNm 2) (tYesD) (frz (cAnd (cCall 1 m_is_integer (cCons (frz (cVar 2)) (cNil))) (vT (tCh .LtE .Lt (frz (cC (.int 0))) (bVar 2) (frz (cB lenM (cCons (bVar 0) (cNil)))))))))) (cNil))))))) (sRet (frz (cC (.bl false)))) (sNil)) (sRet (frz (cB allM (cCons (frz (cLc [3, 4] (iZp (cCons (frz (cVar 1)) (cCons (frz (cSl (bVar 1) (oIs (frz (cC (.int 1)))) (oNo))) (cNil)))) (gTp 2 (gsCons (gNm 3) (gsCons (gNm 4) (gsNil)))) (tYesD) (frz (vT (tCm .Lt (bVar 3) (bVar 4)))))) (cNil)))))
theorem e_are_indexes : ssOf (recN rules3 40) (mkSg N_are_indexes (defScope s_are_indexes) gl_cover []) (defBody s_are_indexes) = some c_are_indexes := by kernel_rfl
def m_are_indexes : List D → M D
  | [d, .tup c] => fun Q _ => ∃ (l : List It2) (cc : List Nat), isIts d l ∧ c = intN cc ∧ cc.Pairwise (· < ·) ∧ (∀ x ∈ cc, x < l.length) ∧ l.length ≤ 250 ∧ Q (.bl true)
  | _ => fail

def gl_are_indexes : List (Str × GV) := ("are_indexes", .fn 2 m_are_indexes []) :: gl_cover

/-! is_choice -/
abbrev s_is_choice : Stmt := top 12
abbrev N_is_choice : List Str := (["items", "value", "one", "other"] : List Str)
theorem sc_is_choice : FnScope N_is_choice ["items", "value"] (defScope s_is_choice) := ⟨rfl, rfl, rfl, by decide +kernel, rfl, by decide +kernel, by decide +kernel⟩
def c_is_choice : CS := sSeq (sDrop (cCall 1 m_need_items (cCons (frz (cVar 0)) (cNil)))) (sSeq (sIf (tNo (tTru (frz (cCall 2 m_are_indexes (cCons (frz (cVar 0)) (cCons (frz (cVar 1)) (cNil))))))) (sRet (frz (cC (.bl false)))) (sNil)) (sRet (frz (cB allM (cCons (frz (cLc [2, 3] (iZp (cCons (frz (cVar 1)) (cCons (frz (cSl (bVar 1) (oIs (frz (cC (.int 1)))) (oNo))) (cNil)))) (gTp 2 (gsCons (gNm 2) (gsCons (gNm 3) (gsNil)))) (tYesD) (frz (vT (tCm .Lt (frz (cIx (frz (cIx (bVar 0) (bVar 2))) (frz (cC (.int 0))))) (frz (cIx (frz (cIx (bVar 0) (bVar 3))) (frz (cC (.int 0)))))))))) (cNil))))))
theorem e_is_choice : ssOf (recN rules3 40) (mkSg N_is_choice (defScope s_is_choice) gl_are_indexes []) (defBody s_is_choice) = some c_is_choice := by kernel_rfl
def m_is_choice : List D → M D
  | [d, .tup c] => fun Q _ => ∃ (l : List It2) (cc : List Nat), isIts d l ∧ Ok l ∧ c = intN cc ∧ Up l cc ∧ (∀ x ∈ cc, x < l.length) ∧ Q (.bl true)
  | _ => fail

def gl_is_choice : List (Str × GV) := ("is_choice", .fn 2 m_is_choice [(0, ["value", "items"], [1, 0])]) :: gl_are_indexes

/-! is_fall -/
abbrev s_is_fall : Stmt := top 13
abbrev N_is_fall : List Str := (["items", "value", "one", "other"] : List Str)
theorem sc_is_fall : FnScope N_is_fall ["items", "value"] (defScope s_is_fall) := ⟨rfl, rfl, rfl, by decide +kernel, rfl, by decide +kernel, by decide +kernel⟩
def c_is_fall : CS := sSeq (sIf (tNo (tTru (frz (cCall 2 m_are_indexes (cCons (frz (cVar 0)) (cCons (frz (cVar 1)) (cNil))))))) (sRet (frz (cC (.bl false)))) (sNil)) (sRet (frz (cB allM (cCons (frz (cLc [2, 3] (iZp (cCons (frz (cVar 1)) (cCons (frz (cSl (bVar 1) (oIs (frz (cC (.int 1)))) (oNo))) (cNil)))) (gTp 2 (gsCons (gNm 2) (gsCons (gNm 3) (gsNil)))) (tYesD) (frz (vT (tCm .Gt (frz (cIx (frz (cIx (bVar 0) (bVar 2))) (frz (cC (.int 0))))) (frz (cIx (frz (cIx (bVar 0) (bVar 3))) (frz (cC (.int 0)))))))))) (cNil)))))
theorem e_is_fall : ssOf (recN rules3 40) (mkSg N_is_fall (defScope s_is_fall) gl_is_choice []) (defBody s_is_fall) = some c_is_fall := by kernel_rfl
def m_is_fall : List D → M D
  | [d, .tup c] => fun Q _ => ∃ (l : List It2) (cc : List Nat) (n : Int), isIts d l ∧ Ok l ∧ c = intN cc ∧ FallOk l (cc, n) ∧ Q (.bl true)
  | _ => fail

def gl_is_fall : List (Str × GV) := ("is_fall", .fn 2 m_is_fall []) :: gl_is_choice

/-! is_cover -/
abbrev s_is_cover : Stmt := top 14
abbrev N_is_cover : List Str := (["items", "value", "part", "at", "number", "weight"] : List Str)
theorem sc_is_cover : FnScope N_is_cover ["items", "value"] (defScope s_is_cover) := ⟨rfl, rfl, rfl, by decide +kernel, rfl, by decide +kernel, by decide +kernel⟩
def c_is_cover : CS := sSeq (sDrop (cCall 1 m_need_items (cCons (frz (cVar 0)) (cNil)))) (sSeq (sIf (tNo (tTru (frz (cIsi (bVar 1) [.lst, .tup])))) (sRet (frz (cC (.bl false)))) (sNil)) (sSeq (sFor (iSeq (frz (cVar 1))) (gNm 2) (sSeq (sIf (tOr' (tNo (tTru (frz (cIsi (bVar 2) [.tup])))) (tOr' (tCm .NotEq (frz (cB lenM (cCons (bVar 2) (cNil)))) (frz (cC (.int 2)))) (tNo (tTru (frz (cCall 2 m_is_fall (cCons (frz (cVar 0)) (cCons (frz (cIx (bVar 2) (frz (cC (.int 0))))) (cNil))))))))) (sRet (frz (cC (.bl false)))) (sNil)) (sIf (tOr' (tNo (tTru (frz (cCall 1 m_is_integer (cCons (frz (cIx (bVar 2) (frz (cC (.int 1))))) (cNil)))))) (tCm .Lt (frz (cIx (bVar 2) (frz (cC (.int 1))))) (frz (cC (.int 1))))) (sRet (frz (cC (.bl false)))) (sNil)))) (sSeq (sFor (iEn (cCons (frz (cVar 0)) (cNil))) (gTp 2 (gsCons (gNm 3) (gsCons (gTp 2 (gsCons (gNm 4) (gsCons (gNm 5) (gsNil)))) (gsNil)))) (sIf (tCm .Lt (frz (cB sumM (cCons (frz (cLc [2] (iSeq (frz (cVar 1))) (gNm 2) (tCm .In (bVar 3) (frz (cIx (bVar 2) (frz (cC (.int 0)))))) (frz (cIx (bVar 2) (frz (cC (.int 1))))))) (cNil)))) (bVar 5)) (sRet (frz (cC (.bl false)))) (sNil))) (sRet (frz (cC (.bl true)))))))
theorem e_is_cover : ssOf (recN rules3 40) (mkSg N_is_cover (defScope s_is_cover) gl_is_fall []) (defBody s_is_cover) = some c_is_cover := by kernel_rfl
structure CovOk (l : List It2) (cov : List (List Nat × Int)) : Prop where
  falls : ∀ c ∈ cov, FallOk l c
  cvr : ∀ i, i < l.length → wtI l i ≤ ((cov.filter fun c => decide (i ∈ c.1)).map fun c => c.2).sum
  len : cov.length ≤ 1000
def m_is_cover : List D → M D
  | [d, .lst told] => fun Q _ => ∃ (l : List It2) (cov : List (List Nat × Int)), isIts d l ∧ Ok l ∧ told = cov.map covD ∧ CovOk l cov ∧ Q (.bl true)
  | _ => fail

def gl_is_cover : List (Str × GV) := ("is_cover", .fn 2 m_is_cover [(0, ["value", "items"], [1, 0])]) :: gl_is_fall

/-! weight_of -/
abbrev s_weight_of : Stmt := top 15
abbrev N_weight_of : List Str := (["items", "choice", "at"] : List Str)
theorem sc_weight_of : FnScope N_weight_of ["items", "choice"] (defScope s_weight_of) := ⟨rfl, rfl, rfl, by decide +kernel, rfl, by decide +kernel, by decide +kernel⟩
def c_weight_of : CS := sSeq (sDrop (cCall 1 m_need_items (cCons (frz (cVar 0)) (cNil)))) (sRet (frz (cB sumM (cCons (frz (cLc [2] (iSeq (frz (cVar 1))) (gNm 2) (tYesD) (frz (cIx (frz (cIx (bVar 0) (bVar 2))) (frz (cC (.int 1))))))) (cNil)))))
theorem e_weight_of : ssOf (recN rules3 40) (mkSg N_weight_of (defScope s_weight_of) gl_is_cover []) (defBody s_weight_of) = some c_weight_of := by kernel_rfl
def m_weight_of : List D → M D
  | [d, .tup c] => fun Q _ => ∃ l cc, isIts d l ∧ Ok l ∧ c = intN cc ∧ (∀ x ∈ cc, x < l.length) ∧ cc.length ≤ 250 ∧ Q (.int (wsum l cc))
  | _ => fail

def gl_weight_of : List (Str × GV) := ("weight_of", .fn 2 m_weight_of []) :: gl_is_cover

/-! _law_begun -/
abbrev s__law_begun : Stmt := top 17
abbrev N__law_begun : List Str := (["_law_script", "_law_cell"] : List Str)
theorem sc__law_begun : FnScope N__law_begun ["_law_script"] (defScope s__law_begun) := ⟨rfl, rfl, rfl, by decide +kernel, rfl, by decide +kernel, by decide +kernel⟩
def c__law_begun : CS := sRet (frz (cLst (cCons (frz (cOr (cLc [1] (iSeq (frz (cSl (bVar 0) (oNo) (oIs (frz (cC (.int 63))))))) (gNm 1) (tYesD) (frz (cB absM (cCons (bVar 1) (cNil))))) (cLst (cCons (frz (cC (.int 7))) (cNil))))) (cCons (frz (cC (.int 0))) (cCons (frz (cC (.int 1))) (cNil))))))
theorem e__law_begun : ssOf (recN rules3 40) (mkSg N__law_begun (defScope s__law_begun) gl_weight_of []) (defBody s__law_begun) = some c__law_begun := by kernel_rfl
def gl__law_begun : List (Str × GV) := ("_law_begun", .fn 1 begunM []) :: gl_weight_of

/-! _law_draw -/
abbrev s__law_draw : Stmt := top 18
abbrev N__law_draw : List Str := (["_law_state", "_law_bound", "_law_cells", "_law_at", "_law_cell", "?"] : List Str)
theorem sc__law_draw : FnScope N__law_draw ["_law_state", "_law_bound"] (defScope s__law_draw) := ⟨rfl, rfl, rfl, by decide +kernel, rfl, by decide +kernel, by decide +kernel⟩
def c__law_draw1 : CS := sSet 2 true (cIx (bVar 0) (frz (cC (.int 0))))
def c__law_draw2 : CS := sSeq (sSet 3 false (cBin .Mod (frz (cIx (bVar 0) (frz (cC (.int 1))))) (frz (cB lenM (cCons (bVar 2) (cNil)))))) (sSeq (sSet 4 false (cIx (bVar 2) (bVar 3))) (sSeq (sIf (tCm .GtE (bVar 4) (frz (cC (.int 1000000000000000000)))) (sSeq (sPut 2 (frz (cBin .FloorDiv (bVar 4) (bVar 1))) (frz (cVar 3))) (sRet (frz (cBin .Mod (bVar 4) (bVar 1))))) (sNil)) (sSeq (sPut 0 (frz (cBin .Add (frz (cIx (bVar 0) (frz (cC (.int 1))))) (frz (cC (.int 1))))) (frz (cC (.int 1)))) (sSeq (sPut 0 (frz (cBin .Mod (frz (cBin .Add (frz (cBin .Add (frz (cBin .Add (frz (cBin .Mult (frz (cIx (bVar 0) (frz (cC (.int 2))))) (frz (cC (.int 48271))))) (bVar 4))) (frz (cC (.int 12345))))) (frz (cBin .Mult (frz (cC (.int 7919))) (frz (cIx (bVar 0) (frz (cC (.int 1))))))))) (frz (cC (.int 2147483647))))) (frz (cC (.int 2)))) (sRet (frz (cBin .Mod (frz (cBin .FloorDiv (frz (cBin .Mod (frz (cBin .Mult (frz (cIx (bVar 0) (frz (cC (.int 2))))) (frz (cIx (bVar 0) (frz (cC (.int 2))))))) (frz (cC (.int 2147483629))))) (frz (cC (.int 16))))) (bVar 1))))))))
theorem e__law_draw1 : ssOf (recN rules3 40) (mkSg N__law_draw (defScope s__law_draw) gl__law_begun [0, 2]) ((defBody s__law_draw).take 1) = some c__law_draw1 := by kernel_rfl
theorem e__law_draw2 : ssOf (recN rules3 40) (mkSg N__law_draw (defScope s__law_draw) gl__law_begun [0, 2]) ((defBody s__law_draw).drop 1) = some c__law_draw2 := by kernel_rfl
def gl__law_draw : List (Str × GV) := ("_law_draw", .fn 2 drawM []) :: gl__law_begun

/-! _law_pick -/
abbrev s__law_pick : Stmt := top 19
abbrev N__law_pick : List Str := (["_law_state", "_law_some"] : List Str)
theorem sc__law_pick : FnScope N__law_pick ["_law_state", "_law_some"] (defScope s__law_pick) := ⟨rfl, rfl, rfl, by decide +kernel, rfl, by decide +kernel, by decide +kernel⟩
def c__law_pick : CS := sRet (frz (cIx (bVar 1) (frz (cCall 2 drawM (cCons (frz (cVar 0)) (cCons (frz (cB lenM (cCons (bVar 1) (cNil)))) (cNil)))))))
theorem e__law_pick : ssOf (recN rules3 40) (mkSg N__law_pick (defScope s__law_pick) gl__law_draw []) (defBody s__law_pick) = some c__law_pick := by kernel_rfl
abbrev m__law_pick : List D → M D := pickM

def gl__law_pick : List (Str × GV) := ("_law_pick", .fn 2 m__law_pick []) :: gl__law_draw

/-! _law_mixed -/
abbrev s__law_mixed : Stmt := top 20
abbrev N__law_mixed : List Str := (["_law_state", "_law_some", "_law_left", "_law_found"] : List Str)
theorem sc__law_mixed : FnScope N__law_mixed ["_law_state", "_law_some"] (defScope s__law_mixed) := ⟨rfl, rfl, rfl, by decide +kernel, rfl, by decide +kernel, by decide +kernel⟩
def c__law_mixed : CS := sSeq (sPar 2 3 true true (cB listM (cCons (bVar 1) (cNil))) (cLst (cNil))) (sSeq (sWhile (tCm .NotEq (bVar 2) (frz (cLst (cNil)))) (sApp 3 (uPopAt 2 (frz (cCall 2 drawM (cCons (frz (cVar 0)) (cCons (frz (cB lenM (cCons (bVar 2) (cNil)))) (cNil)))))))) (sFrz 3 (sRet (frz (cVar 3)))))
theorem e__law_mixed : ssOf (recN rules3 40) (mkSg N__law_mixed (defScope s__law_mixed) gl__law_pick [3, 2]) (defBody s__law_mixed) = some c__law_mixed := by kernel_rfl
abbrev m__law_mixed : List D → M D := mixedM

def gl__law_mixed : List (Str × GV) := ("_law_mixed", .fn 2 m__law_mixed []) :: gl__law_pick

/-! _law_items -/
abbrev s__law_items : Stmt := top 21
abbrev N__law_items : List Str := (["_law_state", "_law_most", "_law_heavy", "_law_size", "_law_values", "_law_step", "_law_shift", "_law_worth"] : List Str)
theorem sc__law_items : FnScope N__law_items ["_law_state", "_law_most", "_law_heavy"] (defScope s__law_items) := ⟨rfl, rfl, rfl, by decide +kernel, rfl, by decide +kernel, by decide +kernel⟩
def c__law_items : CS := sSeq (sSet 3 false (cCall 2 drawM (cCons (frz (cVar 0)) (cCons (frz (cBin .Add (bVar 1) (frz (cC (.int 1))))) (cNil))))) (sSeq (sAsg (gTp 2 (gsCons (gNm 4) (gsCons (gNm 5) (gsNil)))) (frz (cTup (cCons (frz (cCall 2 m__law_mixed (cCons (frz (cVar 0)) (cCons (frz (cLRg false (cCons (frz (cVar 3)) (cNil)))) (cNil))))) (cCons (frz (cCall 2 m__law_pick (cCons (frz (cVar 0)) (cCons (frz (cLst (cCons (frz (cC (.int 1))) (cCons (frz (cC (.int 1))) (cCons (frz (cC (.int 3))) (cCons (frz (cBin .Pow (frz (cC (.int 10))) (frz (cC (.int 12))))) (cNil))))))) (cNil))))) (cNil)))))) (sSeq (sSet 6 false (cCall 2 m__law_pick (cCons (frz (cVar 0)) (cCons (frz (cLst (cCons (frz (cC (.int 0))) (cCons (frz (cC (.int 0))) (cCons (frz (cNeg (frz (cC (.int 5))))) (cCons (frz (cBin .Pow (frz (cC (.int 10))) (frz (cC (.int 17))))) (cCons (frz (cNeg (frz (cBin .Pow (frz (cC (.int 10))) (frz (cC (.int 17))))))) (cNil)))))))) (cNil))))) (sRet (frz (cLc [7] (iSeq (frz (cVar 4))) (gNm 7) (tYesD) (frz (cTup (cCons (frz (cBin .Add (frz (cBin .Mult (bVar 7) (bVar 5))) (bVar 6))) (cCons (frz (cBin .Add (frz (cC (.int 1))) (frz (cCall 2 drawM (cCons (frz (cVar 0)) (cCons (frz (cVar 2)) (cNil))))))) (cNil))))))))))
theorem e__law_items : ssOf (recN rules3 40) (mkSg N__law_items (defScope s__law_items) gl__law_mixed []) (defBody s__law_items) = some c__law_items := by kernel_rfl
def m__law_items : List D → M D
  | [.gen, .int most, .int heavy] => fun Q _ => (0 ≤ most ∧ most ≤ 200 ∧ 1 ≤ heavy ∧ heavy ≤ 1000000000) ∧ ∀ l, Ok l → Small l → (∀ p ∈ l, p.2 ≤ heavy) → (l.length : Int) ≤ most → Q (.lst (itsD l))
  | _ => fail

def gl__law_items : List (Str × GV) := ("_law_items", .fn 3 m__law_items []) :: gl__law_mixed

/-! _law_top -/
abbrev s__law_top : Stmt := top 22
abbrev N__law_top : List Str := (["_law_things", "_law_best", "_law_at", "_law_worth", "_law_weight", "_law_ahead", "_law_other"] : List Str)
theorem sc__law_top : FnScope N__law_top ["_law_things"] (defScope s__law_top) := ⟨rfl, rfl, rfl, by decide +kernel, rfl, by decide +kernel, by decide +kernel⟩
def c__law_top : CS := sSeq (sSet 1 true (cLst (cNil))) (sSeq (sFor (iEn (cCons (frz (cVar 0)) (cNil))) (gTp 2 (gsCons (gNm 2) (gsCons (gTp 2 (gsCons (gNm 3) (gsCons (gNm 4) (gsNil)))) (gsNil)))) (sSeq (sSet 5 false (cLc [6] (iRng (cCons (frz (cVar 2)) (cNil))) (gNm 6) (tCm .Lt (frz (cIx (frz (cIx (bVar 0) (bVar 6))) (frz (cC (.int 0))))) (bVar 3)) (frz (cIx (bVar 1) (bVar 6))))) (sApp 1 (uOf (frz (cBin .Add (bVar 4) (frz (cB (bestsM true) (cCons (frz (cBin .Add (frz (cLst (cCons (frz (cC (.int 0))) (cNil)))) (bVar 5))) (cNil)))))))))) (sRet (frz (cB (bestsM true) (cCons (frz (cBin .Add (frz (cLst (cCons (frz (cC (.int 0))) (cNil)))) (bVar 1))) (cNil))))))
theorem e__law_top : ssOf (recN rules3 40) (mkSg N__law_top (defScope s__law_top) gl__law_items [1]) (defBody s__law_top) = some c__law_top := by kernel_rfl
def m__law_top : List D → M D
  | [.lst its] => fun Q _ => ∃ l, its = itsD l ∧ Pos l ∧ l.length ≤ 250 ∧ Q (.int (maxZ (T l)))
  | _ => fail

def gl__law_top : List (Str × GV) := ("_law_top", .fn 1 m__law_top []) :: gl__law_items

/-! _law_least_heavy -/
abbrev s__law_least_heavy : Stmt := top 23
abbrev N__law_least_heavy : List Str := (["_law_things", "_law_best", "_law_at", "_law_behind", "_law_k", "_law_left", "_law_found", "_law_pair", "_law_fits"] : List Str)
theorem sc__law_least_heavy : FnScope N__law_least_heavy ["_law_things"] (defScope s__law_least_heavy) := ⟨rfl, rfl, rfl, by decide +kernel, rfl, by decide +kernel, by decide +kernel⟩
def c__law_least_heavy : CS := sSeq (sSet 1 true (cLst (cNil))) (sSeq (sFor (iRng (cCons (frz (cBin .Sub (frz (cB lenM (cCons (bVar 0) (cNil)))) (frz (cC (.int 1))))) (cCons (frz (cNeg (frz (cC (.int 1))))) (cCons (frz (cNeg (frz (cC (.int 1))))) (cNil))))) (gNm 2) (sSeq (sSet 3 false (cLc [4] (iRng (cCons (frz (cB lenM (cCons (bVar 1) (cNil)))) (cNil))) (gNm 4) (tCm .Gt (frz (cIx (frz (cIx (bVar 1) (bVar 4))) (frz (cC (.int 1))))) (frz (cIx (frz (cIx (bVar 0) (bVar 2))) (frz (cC (.int 0)))))) (frz (cIx (frz (cIx (bVar 1) (bVar 4))) (frz (cC (.int 0))))))) (sApp 1 (uOf (frz (cTup (cCons (frz (cBin .Add (frz (cIx (frz (cIx (bVar 0) (bVar 2))) (frz (cC (.int 1))))) (frz (cB (bestsM true) (cCons (frz (cBin .Add (frz (cLst (cCons (frz (cC (.int 0))) (cNil)))) (bVar 3))) (cNil)))))) (cCons (frz (cIx (frz (cIx (bVar 0) (bVar 2))) (frz (cC (.int 0))))) (cNil))))))))) (sSeq (sSet 1 true (cRev (bVar 1))) (sSeq (sFrz 1 (sPar 5 6 false false (cB (bestsM true) (cCons (frz (cBin .Add (frz (cLst (cCons (frz (cC (.int 0))) (cNil)))) (frz (cLc [7] (iSeq (frz (cVar 1))) (gNm 7) (tYesD) (frz (cIx (bVar 7) (frz (cC (.int 0))))))))) (cNil))) (cTup (cNil)))) (sSeq (sFrz 1 (sFor (iEn (cCons (frz (cVar 1)) (cNil))) (gTp 2 (gsCons (gNm 2) (gsCons (gNm 7) (gsNil)))) (sSeq (sSet 8 false (cOr (vT (tCm .Eq (bVar 6) (frz (cTup (cNil))))) (vT (tCm .Lt (frz (cIx (frz (cIx (bVar 0) (frz (cIx (bVar 6) (frz (cNeg (frz (cC (.int 1))))))))) (frz (cC (.int 0))))) (frz (cIx (bVar 7) (frz (cC (.int 1))))))))) (sIf (tAn (tCm .Gt (bVar 5) (frz (cC (.int 0)))) (tAn (tCm .Eq (frz (cIx (bVar 7) (frz (cC (.int 0))))) (bVar 5)) (tTru (bVar 8)))) (sPar 6 5 false false (cBin .Add (bVar 6) (frz (cTup (cCons (frz (cVar 2)) (cNil))))) (cBin .Sub (bVar 5) (frz (cIx (frz (cIx (bVar 0) (bVar 2))) (frz (cC (.int 1))))))) (sNil))))) (sRet (frz (cVar 6)))))))
theorem e__law_least_heavy : ssOf (recN rules3 40) (mkSg N__law_least_heavy (defScope s__law_least_heavy) gl__law_top [1]) (defBody s__law_least_heavy) = some c__law_least_heavy := by kernel_rfl
def m__law_least_heavy : List D → M D
  | [.lst its] => fun Q _ => ∃ l, its = itsD l ∧ Ok l ∧ Q (.tup (intN (G none 0 l)))
  | _ => fail

def gl__law_least_heavy : List (Str × GV) := ("_law_least_heavy", .fn 1 m__law_least_heavy []) :: gl__law_top

/-! _law_climb -/
abbrev s__law_climb : Stmt := top 24
abbrev N__law_climb : List Str := (["_law_state", "_law_things", "_law_found", "_law_at", "_law_worth", "_law_weight"] : List Str)
theorem sc__law_climb : FnScope N__law_climb ["_law_state", "_law_things"] (defScope s__law_climb) := ⟨rfl, rfl, rfl, by decide +kernel, rfl, by decide +kernel, by decide +kernel⟩
def c__law_climb : CS := sSeq (sSet 2 true (cLst (cNil))) (sSeq (sFor (iEn (cCons (frz (cVar 1)) (cNil))) (gTp 2 (gsCons (gNm 3) (gsCons (gTp 2 (gsCons (gNm 4) (gsCons (gNm 5) (gsNil)))) (gsNil)))) (sIf (tAn (tOr' (tCm .Eq (bVar 2) (frz (cLst (cNil)))) (tCm .Lt (frz (cIx (frz (cIx (bVar 1) (frz (cIx (bVar 2) (frz (cNeg (frz (cC (.int 1))))))))) (frz (cC (.int 0))))) (bVar 4))) (tCm .Gt (frz (cCall 2 drawM (cCons (frz (cVar 0)) (cCons (frz (cC (.int 3))) (cNil))))) (frz (cC (.int 0))))) (sApp 2 (uOf (frz (cVar 3)))) (sNil))) (sRet (frz (cB tupleM (cCons (bVar 2) (cNil))))))
theorem e__law_climb : ssOf (recN rules3 40) (mkSg N__law_climb (defScope s__law_climb) gl__law_least_heavy [2]) (defBody s__law_climb) = some c__law_climb := by kernel_rfl
def m__law_climb : List D → M D
  | [.gen, .lst its] => fun Q _ => ∃ l, its = itsD l ∧ Ok l ∧ ∀ c, Up l c → (∀ x ∈ c, x < l.length) → Q (.tup (intN c))
  | _ => fail

def gl__law_climb : List (Str × GV) := ("_law_climb", .fn 2 m__law_climb []) :: gl__law_least_heavy

/-! _law_piled -/
abbrev s__law_piled : Stmt := top 25
abbrev N__law_piled : List Str := (["_law_state", "_law_things", "_law_falls", "_law_at", "_law_worth", "_law_weight", "_law_fits", "_law_k", "_law_fall"] : List Str) ++ (List.range 200).map ghN
theorem sc__law_piled : FnScope N__law_piled ["_law_state", "_law_things"] (defScope s__law_piled) := ⟨rfl, rfl, rfl, by decide +kernel, rfl, by decide +kernel, by decide +kernel⟩
def c__law_piled : CS := sSeq (sSet 2 true (cLst (cNil))) (sSeq (sFor (iEn (cCons (frz (cVar 1)) (cNil))) (gTp 2 (gsCons (gNm 3) (gsCons (gTp 2 (gsCons (gNm 4) (gsCons (gNm 5) (gsNil)))) (gsNil)))) (sSeq (sSet 6 false (cLc [7] (iRng (cCons (frz (cB lenM (cCons (bVar 2) (cNil)))) (cNil))) (gNm 7) (tCm .Gt (frz (cIxG 9 (frz (cIxG 9 (bVar 1) (frz (cIxG 9 (frz (cIxG 9 (bVar 2) (bVar 7))) (frz (cNeg (frz (cC (.int 1))))))))) (frz (cC (.int 0))))) (bVar 4)) (frz (cVar 7)))) (sIf (tOr' (tCm .Eq (bVar 6) (frz (cLst (cNil)))) (tCm .Eq (frz (cCall 2 drawM (cCons (frz (cVar 0)) (cCons (frz (cC (.int 6))) (cNil))))) (frz (cC (.int 0))))) (sPark 9 2 (cLst (cCons (frz (cVar 3)) (cNil)))) (sSeq (sSet 8 false (cIxG 9 (bVar 2) (frz (cCall 2 m__law_pick (cCons (frz (cVar 0)) (cCons (frz (cVar 6)) (cNil))))))) (sAppG 9 8 (frz (cVar 3))))))) (sDeep 9 2 (sRet (frz (cLc [8] (iSeq (frz (cVar 2))) (gNm 8) (tYesD) (frz (cTup (cCons (frz (cB tupleM (cCons (bVar 8) (cNil)))) (cCons (frz (cB (bestsM true) (cCons (frz (cLc [3] (iSeq (frz (cVar 8))) (gNm 3) (tYesD) (frz (cIxG 9 (frz (cIxG 9 (bVar 1) (bVar 3))) (frz (cC (.int 1))))))) (cNil)))) (cNil))))))))))
theorem e__law_piled : ssOf (recN rules3 40) (mkSg N__law_piled (defScope s__law_piled) gl__law_climb [2]) (defBody s__law_piled) = some c__law_piled := by kernel_rfl
def m__law_piled : List D → M D
  | [.gen, .lst its] => fun Q _ => ∃ l, its = itsD l ∧ Ok l ∧ l.length ≤ 200 ∧ ∀ cov, CovOk l cov → Q (.lst (cov.map covD))
  | _ => fail

def gl__law_piled : List (Str × GV) := ("_law_piled", .fn 2 m__law_piled []) :: gl__law_climb

/-! law -/
abbrev s_law : Stmt := top 26
abbrev N_law : List Str := (["_law_script", "_law_state", "_law_turn", "_law_things", "_law_chosen", "_law_covers", "_law_most", "_law_fall", "_law_number", "_law_more", "_law_climb_here", "_law_piled_here", "_law_at"] : List Str)
theorem sc_law : FnScope N_law ["_law_script"] (defScope s_law) := ⟨rfl, rfl, rfl, by decide +kernel, rfl, by decide +kernel, by decide +kernel⟩
def c_law : CS := sSeq (sSet 1 false (cCall 1 begunM (cCons (frz (cVar 0)) (cNil)))) (sSeq (sFor (iRng (cCons (frz (cC (.int 3))) (cNil))) (gNm 2) (sSeq (sSet 3 false (cCall 3 m__law_items (cCons (frz (cVar 1)) (cCons (frz (cIx (frz (cLst (cCons (frz (cC (.int 40))) (cCons (frz (cC (.int 40))) (cCons (frz (cCall 2 m__law_pick (cCons (frz (cVar 1)) (cCons (frz (cLst (cCons (frz (cC (.int 20))) (cCons (frz (cC (.int 20))) (cCons (frz (cC (.int 200))) (cNil)))))) (cNil))))) (cNil)))))) (bVar 2))) (cCons (frz (cCall 2 m__law_pick (cCons (frz (cVar 1)) (cCons (frz (cLst (cCons (frz (cC (.int 1))) (cCons (frz (cC (.int 4))) (cCons (frz (cBin .Pow (frz (cC (.int 10))) (frz (cC (.int 9))))) (cNil)))))) (cNil))))) (cNil)))))) (sSeq (sPar 4 5 false false (cCall 1 m_heaviest (cCons (frz (cVar 3)) (cNil))) (cCallF true 1 m_cover (cCons (frz (cVar 3)) (cNil)))) (sSeq (sSet 6 false (cCall 2 m_weight_of (cCons (frz (cVar 3)) (cCons (frz (cVar 4)) (cNil))))) (sSeq (sIf (tOr' (tCm .NotEq (bVar 4) (frz (cCall 1 m__law_least_heavy (cCons (frz (cVar 3)) (cNil))))) (tOr' (tNo (tTru (frz (cCall 2 m_is_choice (cCons (frz (cVar 3)) (cCons (frz (cVar 4)) (cNil))))))) (tNo (tTru (frz (cCall 2 m_is_cover (cCons (frz (cVar 3)) (cCons (frz (cVar 5)) (cNil))))))))) (sRet (frz (cC (.bl false)))) (sNil)) (sSeq (sIf (tOr' (tCm .NotEq (bVar 6) (frz (cB sumM (cCons (frz (cLc [7, 8] (iSeq (frz (cVar 5))) (gTp 2 (gsCons (gNm 7) (gsCons (gNm 8) (gsNil)))) (tYesD) (frz (cVar 8)))) (cNil))))) (tCm .NotEq (bVar 6) (frz (cCall 1 m__law_top (cCons (frz (cVar 3)) (cNil)))))) (sRet (frz (cC (.bl false)))) (sNil)) (sSeq (sFor (iRng (cCons (frz (cC (.int 4))) (cNil))) (gNm 9) (sSeq (sPar 10 11 false false (cCall 2 m__law_climb (cCons (frz (cVar 1)) (cCons (frz (cVar 3)) (cNil)))) (cCall 2 m__law_piled (cCons (frz (cVar 1)) (cCons (frz (cVar 3)) (cNil))))) (sSeq (sIf (tOr' (tNo (tTru (frz (cCallK 2 [1, 0] m_is_choice (cNil) (cCons (frz (cVar 10)) (cCons (frz (cVar 3)) (cNil))))))) (tCm .Gt (frz (cCall 2 m_weight_of (cCons (frz (cVar 3)) (cCons (frz (cVar 10)) (cNil))))) (bVar 6))) (sRet (frz (cC (.bl false)))) (sNil)) (sIf (tOr' (tNo (tTru (frz (cCallK 2 [1, 0] m_is_cover (cNil) (cCons (frz (cVar 11)) (cCons (frz (cVar 3)) (cNil))))))) (tCm .Lt (frz (cB sumM (cCons (frz (cLc [7, 8] (iSeq (frz (cVar 11))) (gTp 2 (gsCons (gNm 7) (gsCons (gNm 8) (gsNil)))) (tYesD) (frz (cVar 8)))) (cNil)))) (bVar 6))) (sRet (frz (cC (.bl false)))) (sNil))))) (sIf (tNo (tTru (frz (cCall 2 m_is_cover (cCons (frz (cVar 3)) (cCons (frz (cLc [12] (iRng (cCons (frz (cB lenM (cCons (bVar 3) (cNil)))) (cNil))) (gNm 12) (tYesD) (frz (cTup (cCons (frz (cTup (cCons (frz (cVar 12)) (cNil)))) (cCons (frz (cIx (frz (cIx (bVar 3) (bVar 12))) (frz (cC (.int 1))))) (cNil))))))) (cNil))))))) (sRet (frz (cC (.bl false)))) (sNil))))))))) (sRet (frz (cC (.bl true)))))
theorem e_law : ssOf (recN rules3 40) (mkSg N_law (defScope s_law) gl__law_piled []) (defBody s_law) = some c_law := by kernel_rfl


end DL.K16

namespace DL.K16
open PySem L2 DL.K13
local macro_rules | `(tactic| walk_at "dl") => `(tactic| simp only [ret, fail, bnd, frz, cC, cVar, bVar, cBin, cNeg, cNot, cAnd, cOr, cIf, vT, tCm, tCh, tTru, tNo, tAn, tOr', cNil, cCons, cTup, cLst, cIx, oNo, oIs, cSl, cCall, callD, cCallK, cB, sNil, sSeq, sDrop, sSet, sAsg, sPar, sRet, sRetN, sIf, sBrk, sCnt, sNo, sFor, sFrz, sApp, sPut, sSetU, uOf, uPop, uPopAt, isOwL, sAdopt,
  gNm, gTp, gsCons, gsNil, tYesD, cLc, iSeq, iRng, iEn, cIsi, cLRg, cBest, cSrtSet, cRev, iZp, cCallF, cCallKF, callF, sRetO, sRetF, tLend, frzE, cDct, prM, cJoin, cel, rgsM, len_lst, len_tup, len_dct, len_str, abs_int, list_lst, list_tup, tuple_lst, tuple_tup, items_lst, items_tup, items_str, enum_lst, enum_tup,
  bin_addI, bin_subI, bin_mulI, bin_divI, bin_modI, bin_powI, bin_addS, bin_addL, bin_addT, bin_mulL, bin_mulT, bin_mulS, cmp_eq, cmp_ne, cmp_lt, cmp_le, cmp_gt, cmp_ge, cmp_is, cmp_isnt, cmp_inS, cmp_ninS, eq_int, eq_str, ix_lst, ix_tup, tru_bl, tru_lst, tru_tup, tru_int, tru_non, non_non, non_int, non_str, non_bl, non_lst, non_tup, at_zero, at_one, at_two,
  isi_non, isi_bl, isi_int, isi_str, isi_lst, isi_tup, isi_dct, sub_tab, List.any_cons, List.any_nil, Bool.or_false, Bool.or_true, Bool.true_or, Bool.false_or, Bool.not_true, Bool.not_false,
  List.getElem?_cons_zero, List.getElem?_cons_succ, List.set_cons_zero, List.set_cons_succ, Bool.false_and, Bool.true_and, Bool.and_false, Bool.and_true, Bool.false_eq_true, if_true, if_false, ite_true, ite_false, List.length_cons, List.length_nil, List.length_map, true_and, and_true, ne_eq, not_true_eq_false, not_false_eq_true, reduceCtorEq, Nat.reduceAdd, Nat.zero_add, Int.cast_ofNat_Int, beq_self_eq_true, decide_true, decide_false, *])
local macro_rules | `(tactic| walk_at "dl0") => `(tactic| simp only [ret, fail, bnd, frz, cC, cVar, bVar, cBin, cNeg, cNot, cAnd, cOr, cIf, vT, tCm, tCh, tTru, tNo, tAn, tOr', cNil, cCons, cTup, cLst, cIx, oNo, oIs, cSl, cCall, callD, cCallK, cB, sNil, sSeq, sDrop, sSet, sAsg, sPar, sRet, sRetN, sIf, sBrk, sCnt, sNo, sFor, sFrz, sApp, sPut, sSetU, uOf, uPop, uPopAt, isOwL, sAdopt,
  gNm, gTp, gsCons, gsNil, tYesD, cLc, iSeq, iRng, iEn, cIsi, cLRg, cBest, cSrtSet, cRev, iZp, cCallF, cCallKF, callF, sRetO, sRetF, tLend, frzE, cDct, prM, cJoin, cel, rgsM, len_lst, len_tup, len_dct, len_str, abs_int, list_lst, list_tup, tuple_lst, tuple_tup, items_lst, items_tup, items_str, enum_lst, enum_tup,
  bin_addI, bin_subI, bin_mulI, bin_divI, bin_modI, bin_powI, bin_addS, bin_addL, bin_addT, bin_mulL, bin_mulT, bin_mulS, cmp_eq, cmp_ne, cmp_lt, cmp_le, cmp_gt, cmp_ge, cmp_is, cmp_isnt, cmp_inS, cmp_ninS, eq_int, eq_str, ix_lst, ix_tup, tru_bl, tru_lst, tru_tup, tru_int, tru_non, non_non, non_int, non_str, non_bl, non_lst, non_tup, at_zero, at_one, at_two,
  isi_non, isi_bl, isi_int, isi_str, isi_lst, isi_tup, isi_dct, sub_tab, List.any_cons, List.any_nil, Bool.or_false, Bool.or_true, Bool.true_or, Bool.false_or, Bool.not_true, Bool.not_false,
  List.getElem?_cons_zero, List.getElem?_cons_succ, List.set_cons_zero, List.set_cons_succ, Bool.false_and, Bool.true_and, Bool.and_false, Bool.and_true, Bool.false_eq_true, if_true, if_false, ite_true, ite_false, List.length_cons, List.length_nil, List.length_map, true_and, and_true, ne_eq, not_true_eq_false, not_false_eq_true, reduceCtorEq, Nat.reduceAdd, Nat.zero_add, Int.cast_ofNat_Int, beq_self_eq_true, decide_true, decide_false])
theorem p_is_integer : ∀ ds QD ED, m_is_integer ds QD ED → c_is_integer (startE N_is_integer ds) { nx := fun _ => QD .non, rt := fun d _ => QD d } ED := by
  intro ds QD ED h
  unfold m_is_integer at h
  split at h
  · rename_i d
    show c_is_integer [.sh d] _ ED
    unfold c_is_integer
    cases d <;> first | exact h | exact h.elim
  · exact h.elim

end DL.K16

namespace DL.K16
open PySem L2 DL.K13
local macro_rules | `(tactic| walk_at "dl") => `(tactic| simp only [ret, fail, bnd, frz, cC, cVar, bVar, cBin, cNeg, cNot, cAnd, cOr, cIf, vT, tCm, tCh, tTru, tNo, tAn, tOr', cNil, cCons, cTup, cLst, cIx, oNo, oIs, cSl, cCall, callD, cCallK, cB, sNil, sSeq, sDrop, sSet, sAsg, sPar, sRet, sRetN, sIf, sBrk, sCnt, sNo, sFor, sFrz, sApp, sPut, sSetU, uOf, uPop, uPopAt, isOwL, sAdopt,
  gNm, gTp, gsCons, gsNil, tYesD, cLc, iSeq, iRng, iEn, cIsi, cLRg, cBest, cSrtSet, cRev, iZp, cCallF, cCallKF, callF, sRetO, sRetF, tLend, frzE, cDct, prM, cJoin, cel, rgsM, len_lst, len_tup, len_dct, len_str, abs_int, list_lst, list_tup, tuple_lst, tuple_tup, items_lst, items_tup, items_str, enum_lst, enum_tup,
  bin_addI, bin_subI, bin_mulI, bin_divI, bin_modI, bin_powI, bin_addS, bin_addL, bin_addT, bin_mulL, bin_mulT, bin_mulS, cmp_eq, cmp_ne, cmp_lt, cmp_le, cmp_gt, cmp_ge, cmp_is, cmp_isnt, cmp_inS, cmp_ninS, eq_int, eq_str, ix_lst, ix_tup, tru_bl, tru_lst, tru_tup, tru_int, tru_non, non_non, non_int, non_str, non_bl, non_lst, non_tup, at_zero, at_one, at_two,
  isi_non, isi_bl, isi_int, isi_str, isi_lst, isi_tup, isi_dct, sub_tab, List.any_cons, List.any_nil, Bool.or_false, Bool.or_true, Bool.true_or, Bool.false_or, Bool.not_true, Bool.not_false,
  List.getElem?_cons_zero, List.getElem?_cons_succ, List.set_cons_zero, List.set_cons_succ, Bool.false_and, Bool.true_and, Bool.and_false, Bool.and_true, Bool.false_eq_true, if_true, if_false, ite_true, ite_false, List.length_cons, List.length_nil, List.length_map, true_and, and_true, ne_eq, not_true_eq_false, not_false_eq_true, reduceCtorEq, Nat.reduceAdd, Nat.zero_add, Int.cast_ofNat_Int, beq_self_eq_true, decide_true, decide_false, *])
local macro_rules | `(tactic| walk_at "dl0") => `(tactic| simp only [ret, fail, bnd, frz, cC, cVar, bVar, cBin, cNeg, cNot, cAnd, cOr, cIf, vT, tCm, tCh, tTru, tNo, tAn, tOr', cNil, cCons, cTup, cLst, cIx, oNo, oIs, cSl, cCall, callD, cCallK, cB, sNil, sSeq, sDrop, sSet, sAsg, sPar, sRet, sRetN, sIf, sBrk, sCnt, sNo, sFor, sFrz, sApp, sPut, sSetU, uOf, uPop, uPopAt, isOwL, sAdopt,
  gNm, gTp, gsCons, gsNil, tYesD, cLc, iSeq, iRng, iEn, cIsi, cLRg, cBest, cSrtSet, cRev, iZp, cCallF, cCallKF, callF, sRetO, sRetF, tLend, frzE, cDct, prM, cJoin, cel, rgsM, len_lst, len_tup, len_dct, len_str, abs_int, list_lst, list_tup, tuple_lst, tuple_tup, items_lst, items_tup, items_str, enum_lst, enum_tup,
  bin_addI, bin_subI, bin_mulI, bin_divI, bin_modI, bin_powI, bin_addS, bin_addL, bin_addT, bin_mulL, bin_mulT, bin_mulS, cmp_eq, cmp_ne, cmp_lt, cmp_le, cmp_gt, cmp_ge, cmp_is, cmp_isnt, cmp_inS, cmp_ninS, eq_int, eq_str, ix_lst, ix_tup, tru_bl, tru_lst, tru_tup, tru_int, tru_non, non_non, non_int, non_str, non_bl, non_lst, non_tup, at_zero, at_one, at_two,
  isi_non, isi_bl, isi_int, isi_str, isi_lst, isi_tup, isi_dct, sub_tab, List.any_cons, List.any_nil, Bool.or_false, Bool.or_true, Bool.true_or, Bool.false_or, Bool.not_true, Bool.not_false,
  List.getElem?_cons_zero, List.getElem?_cons_succ, List.set_cons_zero, List.set_cons_succ, Bool.false_and, Bool.true_and, Bool.and_false, Bool.and_true, Bool.false_eq_true, if_true, if_false, ite_true, ite_false, List.length_cons, List.length_nil, List.length_map, true_and, and_true, ne_eq, not_true_eq_false, not_false_eq_true, reduceCtorEq, Nat.reduceAdd, Nat.zero_add, Int.cast_ofNat_Int, beq_self_eq_true, decide_true, decide_false])
theorem is_int (v : Int) : m_is_integer [.int v] = ret (.bl true) := rfl
theorem p_is_item : ∀ ds QD ED, m_is_item ds QD ED → c_is_item (startE N_is_item ds) { nx := fun _ => QD .non, rt := fun d _ => QD d } ED := by
  intro ds QD ED h
  unfold m_is_item at h
  split at h
  · rename_i v w
    show c_is_item [.sh (.tup [.int v, .int w])] _ ED
    unfold c_is_item
    have i1 := is_int v
    have i2 := is_int w
    walk_at "dl"
  · exact h.elim

end DL.K16

namespace DL.K16
open PySem L2 DL.K13
local macro_rules | `(tactic| walk_at "dl") => `(tactic| simp only [ret, fail, bnd, frz, cC, cVar, bVar, cBin, cNeg, cNot, cAnd, cOr, cIf, vT, tCm, tCh, tTru, tNo, tAn, tOr', cNil, cCons, cTup, cLst, cIx, oNo, oIs, cSl, cCall, callD, cCallK, cB, sNil, sSeq, sDrop, sSet, sAsg, sPar, sRet, sRetN, sIf, sBrk, sCnt, sNo, sFor, sFrz, sApp, sPut, sSetU, uOf, uPop, uPopAt, isOwL, sAdopt,
  gNm, gTp, gsCons, gsNil, tYesD, cLc, iSeq, iRng, iEn, cIsi, cLRg, cBest, cSrtSet, cRev, iZp, cCallF, cCallKF, callF, sRetO, sRetF, tLend, frzE, cDct, prM, cJoin, cel, rgsM, len_lst, len_tup, len_dct, len_str, abs_int, list_lst, list_tup, tuple_lst, tuple_tup, items_lst, items_tup, items_str, enum_lst, enum_tup,
  bin_addI, bin_subI, bin_mulI, bin_divI, bin_modI, bin_powI, bin_addS, bin_addL, bin_addT, bin_mulL, bin_mulT, bin_mulS, cmp_eq, cmp_ne, cmp_lt, cmp_le, cmp_gt, cmp_ge, cmp_is, cmp_isnt, cmp_inS, cmp_ninS, eq_int, eq_str, ix_lst, ix_tup, tru_bl, tru_lst, tru_tup, tru_int, tru_non, non_non, non_int, non_str, non_bl, non_lst, non_tup, at_zero, at_one, at_two,
  isi_non, isi_bl, isi_int, isi_str, isi_lst, isi_tup, isi_dct, sub_tab, List.any_cons, List.any_nil, Bool.or_false, Bool.or_true, Bool.true_or, Bool.false_or, Bool.not_true, Bool.not_false,
  List.getElem?_cons_zero, List.getElem?_cons_succ, List.set_cons_zero, List.set_cons_succ, Bool.false_and, Bool.true_and, Bool.and_false, Bool.and_true, Bool.false_eq_true, if_true, if_false, ite_true, ite_false, List.length_cons, List.length_nil, List.length_map, true_and, and_true, ne_eq, not_true_eq_false, not_false_eq_true, reduceCtorEq, Nat.reduceAdd, Nat.zero_add, Int.cast_ofNat_Int, beq_self_eq_true, decide_true, decide_false, *])
local macro_rules | `(tactic| walk_at "dl0") => `(tactic| simp only [ret, fail, bnd, frz, cC, cVar, bVar, cBin, cNeg, cNot, cAnd, cOr, cIf, vT, tCm, tCh, tTru, tNo, tAn, tOr', cNil, cCons, cTup, cLst, cIx, oNo, oIs, cSl, cCall, callD, cCallK, cB, sNil, sSeq, sDrop, sSet, sAsg, sPar, sRet, sRetN, sIf, sBrk, sCnt, sNo, sFor, sFrz, sApp, sPut, sSetU, uOf, uPop, uPopAt, isOwL, sAdopt,
  gNm, gTp, gsCons, gsNil, tYesD, cLc, iSeq, iRng, iEn, cIsi, cLRg, cBest, cSrtSet, cRev, iZp, cCallF, cCallKF, callF, sRetO, sRetF, tLend, frzE, cDct, prM, cJoin, cel, rgsM, len_lst, len_tup, len_dct, len_str, abs_int, list_lst, list_tup, tuple_lst, tuple_tup, items_lst, items_tup, items_str, enum_lst, enum_tup,
  bin_addI, bin_subI, bin_mulI, bin_divI, bin_modI, bin_powI, bin_addS, bin_addL, bin_addT, bin_mulL, bin_mulT, bin_mulS, cmp_eq, cmp_ne, cmp_lt, cmp_le, cmp_gt, cmp_ge, cmp_is, cmp_isnt, cmp_inS, cmp_ninS, eq_int, eq_str, ix_lst, ix_tup, tru_bl, tru_lst, tru_tup, tru_int, tru_non, non_non, non_int, non_str, non_bl, non_lst, non_tup, at_zero, at_one, at_two,
  isi_non, isi_bl, isi_int, isi_str, isi_lst, isi_tup, isi_dct, sub_tab, List.any_cons, List.any_nil, Bool.or_false, Bool.or_true, Bool.true_or, Bool.false_or, Bool.not_true, Bool.not_false,
  List.getElem?_cons_zero, List.getElem?_cons_succ, List.set_cons_zero, List.set_cons_succ, Bool.false_and, Bool.true_and, Bool.and_false, Bool.and_true, Bool.false_eq_true, if_true, if_false, ite_true, ite_false, List.length_cons, List.length_nil, List.length_map, true_and, and_true, ne_eq, not_true_eq_false, not_false_eq_true, reduceCtorEq, Nat.reduceAdd, Nat.zero_add, Int.cast_ofNat_Int, beq_self_eq_true, decide_true, decide_false])
theorem keys_new {kvs : List (Key × D)} : ∀ {more acc : List (Key × D)}, ((acc ++ more).map fun p => p.1).Nodup → (mergeG acc more).length = acc.length + more.length
  | [], acc, _ => rfl
  | (k, v) :: more, acc, h => by
    have hk : (acc.any fun kv => decide (kv.1 = k)) = false := by
      rw [List.any_eq_false]
      intro p hp
      rw [decide_eq_true_eq]
      intro e
      rw [List.map_append, List.nodup_append] at h
      exact h.2.2 p.1 (List.mem_map_of_mem hp) k List.mem_cons_self e
    have e1 : putG acc k v = acc ++ [(k, v)] := by
      unfold putG
      rw [hk, if_neg Bool.false_ne_true]
    show (mergeG (putG acc k v) more).length = _
    rw [e1, keys_new (kvs := kvs) (by rw [List.append_assoc]; exact h), List.length_append, List.length_cons, List.length_nil, List.length_cons]
    omega
theorem p_need_items : ∀ ds QD ED, m_need_items ds QD ED → c_need_items (startE N_need_items ds) { nx := fun _ => QD .non, rt := fun d _ => QD d } ED := by
  intro ds QD ED h
  unfold m_need_items at h
  split at h
  · rename_i d
    obtain ⟨l, hd, ok, h⟩ := h
    show c_need_items [.sh d, .no] _ ED
    have hl : l.length ≤ sizeLine := Nat.le_trans ok.len (by decide)
    have eall : ∀ (ρ : Env) (Q : List D → Prop), Q (l.map fun _ => .bl true) → lcM (gNm 1) tYesD (frz (cCall 1 m_is_item (cCons (frz (cVar 1)) cNil))) [.sh d, .no] (itsD l) Q ED := fun ρ Q q => by
      refine lc_map (fun _ => .bl true) (fun x hx Q q => ?_) (by unfold itsD; rw [List.map_map]; exact q)
      obtain ⟨p, hp, rfl⟩ := List.mem_map.mp hx
      have hw := ok.pos p hp
      show 1 = 1 ∧ Q (.bl (decide (1 ≤ p.2)))
      rw [decide_eq_true hw]
      exact ⟨rfl, q⟩
    have eprs : ∀ (Q : List D → Prop), Q (l.map fun p => .tup [.int p.1, .bl true]) → lcM (gNm 1) tYesD (frz (cTup (cCons (frz (cIx (bVar 1) (frz (cC (.int 0))))) (cCons (frz (cC (.bl true))) cNil)))) [.sh d, .no] (itsD l) Q ED := fun Q q => by
      refine lc_map (fun x => match x with | .tup [.int v, _] => .tup [.int v, .bl true] | x => x) (fun x hx Q q => ?_) (by unfold itsD; rw [List.map_map]; exact q)
      obtain ⟨p, hp, rfl⟩ := List.mem_map.mp hx
      show (2 ≤ sizeLine ∧ _)
      exact ⟨by decide, q⟩
    have wip : wipeE [.sh d, .no] [1] = [.sh d, .no] := rfl
    have hall : ∀ Q : D × Bool → Prop, Q (.bl true, false) → allM [.lst (l.map fun _ => .bl true)] Q ED := fun Q q => by
      have e : (l.map fun _ => D.bl true) = (l.map fun _ => true).map D.bl := by rw [List.map_map]; rfl
      show match blsD (l.map fun _ => D.bl true) with | some bs => Q (.bl (bs.all id), false) | none => False
      rw [e, blsD_map]
      have : ((l.map fun _ => true).all id) = true := by rw [List.all_eq_true]; intro x hx; obtain ⟨_, _, rfl⟩ := List.mem_map.mp hx; rfl
      show Q (.bl ((l.map fun _ => true).all id), false)
      rw [this]; exact q
    have hdict : ∀ Q : D × Bool → Prop, (∀ kvs : List (D × D), kvs.length = l.length → Q (.dct kvs, true)) → dictM [.lst (l.map fun p => .tup [.int p.1, .bl true])] Q ED := fun Q q => by
      have e : ∀ l : List It2, kvsD (l.map fun p => .tup [.int p.1, .bl true]) = some (l.map fun p => (.inl p.1, .bl true)) := by
        intro l
        induction l with
        | nil => rfl
        | cons p r ih => simp only [List.map_cons, kvsD, keyD, ih]
      show match kvsD (l.map fun p => .tup [.int p.1, .bl true]) with | some kvs => Q (.dct (unK (mergeG [] kvs)), true) | none => False
      rw [e]
      refine q _ ?_
      unfold unK
      rw [List.length_map, keys_new (kvs := [])]
      · rw [List.length_nil, List.length_map, Nat.zero_add]
      · rw [List.nil_append, List.map_map]
        have := ok.nd
        unfold List.Nodup at this ⊢
        rw [List.pairwise_map] at this ⊢
        exact this.imp fun hne z => hne (Sum.inl.inj z)
    unfold c_need_items
    rcases hd with rfl | rfl
    all_goals
      walk_at "dl"
      refine ⟨by rw [its_len]; exact hl, eall [] _ (hall _ ?_)⟩
      show (if (!true) = true then False else _)
      rw [if_neg (by decide)]
      refine ⟨by rw [its_len]; exact hl, eprs _ (hdict _ fun kvs hk => ?_)⟩
      show (if (!(((kvs.length : Nat) : Int) == (((itsD l).length : Nat) : Int))) = true then False else _)
      rw [hk, its_len, beq_self_eq_true, if_neg (by decide)]
      trivial
  · exact h.elim

end DL.K16

namespace DL.K16
open PySem L2 DL.K13
local macro_rules | `(tactic| walk_at "dl") => `(tactic| simp only [ret, fail, bnd, frz, cC, cVar, bVar, cBin, cNeg, cNot, cAnd, cOr, cIf, vT, tCm, tCh, tTru, tNo, tAn, tOr', cNil, cCons, cTup, cLst, cIx, oNo, oIs, cSl, cCall, callD, cCallK, cB, sNil, sSeq, sDrop, sSet, sAsg, sPar, sRet, sRetN, sIf, sBrk, sCnt, sNo, sFor, sFrz, sApp, sPut, sSetU, uOf, uPop, uPopAt, isOwL, sAdopt,
  gNm, gTp, gsCons, gsNil, tYesD, cLc, iSeq, iRng, iEn, cIsi, cLRg, cBest, cSrtSet, cRev, iZp, cCallF, cCallKF, callF, sRetO, sRetF, tLend, frzE, cDct, prM, cJoin, cel, rgsM, len_lst, len_tup, len_dct, len_str, abs_int, list_lst, list_tup, tuple_lst, tuple_tup, items_lst, items_tup, items_str, enum_lst, enum_tup,
  bin_addI, bin_subI, bin_mulI, bin_divI, bin_modI, bin_powI, bin_addS, bin_addL, bin_addT, bin_mulL, bin_mulT, bin_mulS, cmp_eq, cmp_ne, cmp_lt, cmp_le, cmp_gt, cmp_ge, cmp_is, cmp_isnt, cmp_inS, cmp_ninS, eq_int, eq_str, ix_lst, ix_tup, tru_bl, tru_lst, tru_tup, tru_int, tru_non, non_non, non_int, non_str, non_bl, non_lst, non_tup, at_zero, at_one, at_two,
  isi_non, isi_bl, isi_int, isi_str, isi_lst, isi_tup, isi_dct, sub_tab, List.any_cons, List.any_nil, Bool.or_false, Bool.or_true, Bool.true_or, Bool.false_or, Bool.not_true, Bool.not_false,
  List.getElem?_cons_zero, List.getElem?_cons_succ, List.set_cons_zero, List.set_cons_succ, Bool.false_and, Bool.true_and, Bool.and_false, Bool.and_true, Bool.false_eq_true, if_true, if_false, ite_true, ite_false, List.length_cons, List.length_nil, List.length_map, true_and, and_true, ne_eq, not_true_eq_false, not_false_eq_true, reduceCtorEq, Nat.reduceAdd, Nat.zero_add, Int.cast_ofNat_Int, beq_self_eq_true, decide_true, decide_false, *])
local macro_rules | `(tactic| walk_at "dl0") => `(tactic| simp only [ret, fail, bnd, frz, cC, cVar, bVar, cBin, cNeg, cNot, cAnd, cOr, cIf, vT, tCm, tCh, tTru, tNo, tAn, tOr', cNil, cCons, cTup, cLst, cIx, oNo, oIs, cSl, cCall, callD, cCallK, cB, sNil, sSeq, sDrop, sSet, sAsg, sPar, sRet, sRetN, sIf, sBrk, sCnt, sNo, sFor, sFrz, sApp, sPut, sSetU, uOf, uPop, uPopAt, isOwL, sAdopt,
  gNm, gTp, gsCons, gsNil, tYesD, cLc, iSeq, iRng, iEn, cIsi, cLRg, cBest, cSrtSet, cRev, iZp, cCallF, cCallKF, callF, sRetO, sRetF, tLend, frzE, cDct, prM, cJoin, cel, rgsM, len_lst, len_tup, len_dct, len_str, abs_int, list_lst, list_tup, tuple_lst, tuple_tup, items_lst, items_tup, items_str, enum_lst, enum_tup,
  bin_addI, bin_subI, bin_mulI, bin_divI, bin_modI, bin_powI, bin_addS, bin_addL, bin_addT, bin_mulL, bin_mulT, bin_mulS, cmp_eq, cmp_ne, cmp_lt, cmp_le, cmp_gt, cmp_ge, cmp_is, cmp_isnt, cmp_inS, cmp_ninS, eq_int, eq_str, ix_lst, ix_tup, tru_bl, tru_lst, tru_tup, tru_int, tru_non, non_non, non_int, non_str, non_bl, non_lst, non_tup, at_zero, at_one, at_two,
  isi_non, isi_bl, isi_int, isi_str, isi_lst, isi_tup, isi_dct, sub_tab, List.any_cons, List.any_nil, Bool.or_false, Bool.or_true, Bool.true_or, Bool.false_or, Bool.not_true, Bool.not_false,
  List.getElem?_cons_zero, List.getElem?_cons_succ, List.set_cons_zero, List.set_cons_succ, Bool.false_and, Bool.true_and, Bool.and_false, Bool.and_true, Bool.false_eq_true, if_true, if_false, ite_true, ite_false, List.length_cons, List.length_nil, List.length_map, true_and, and_true, ne_eq, not_true_eq_false, not_false_eq_true, reduceCtorEq, Nat.reduceAdd, Nat.zero_add, Int.cast_ofNat_Int, beq_self_eq_true, decide_true, decide_false])
theorem rep_flat (n : Nat) (x : D) : (List.replicate n [x]).flatten = List.replicate n x := by
  induction n with
  | zero => rfl
  | succ n ih => rw [List.replicate_succ, List.flatten_cons, ih, List.replicate_succ]; rfl
def fnd (l : List It2) (k : Nat) : List Int := List.replicate k 0 ++ (bestL l).drop k
theorem fnd_len (l : List It2) {k : Nat} (h : k ≤ l.length) : (fnd l k).length = l.length := by
  unfold fnd
  rw [List.length_append, List.length_replicate, List.length_drop, bestL_len]
  omega
theorem fnd_at (l : List It2) {k o : Nat} (h : k ≤ o) : (fnd l k).getD o 0 = (bestL l).getD o 0 := by
  unfold fnd
  rw [List.getD_eq_getElem?_getD, List.getD_eq_getElem?_getD, List.getElem?_append_right (by rw [List.length_replicate]; exact h), List.length_replicate, List.getElem?_drop]
  have : k + (o - k) = o := by omega
  rw [this]
theorem fnd_set {l : List It2} {k : Nat} {v w : Int} {r : List It2} (e : l.drop k = (v, w) :: r) : (fnd l (k + 1)).set k (w + mx (some v) r) = fnd l k := by
  have hb := best_at l k v w r e
  have hk := lt_of_at hb
  unfold fnd
  rw [List.replicate_succ', List.append_assoc, List.set_append_right _ _ (by rw [List.length_replicate]; exact Nat.le_refl _), List.length_replicate, Nat.sub_self]
  rw [List.drop_eq_getElem_cons hk]
  rw [List.getElem?_eq_getElem hk] at hb
  rw [Option.some.inj hb]
  rfl
theorem beh_upto (l : List It2) (v : Int) (k : Nat) (hk : k + 1 ≤ l.length) : (((upto ((k : Int) + 1) 1 (l.length - (k + 1))).filter fun x => match x with | .int o => decide (v < valI l o.toNat) | _ => false).map fun x => match x with | .int o => D.int ((bestL l).getD o.toNat 0) | x => x) =
    (beh v (l.drop (k + 1))).map D.int := by
  unfold beh upto
  rw [List.length_drop, List.filter_map, List.map_map, List.map_map]
  have e1 : ((fun x : D => match x with | .int o => decide (v < valI l o.toNat) | _ => false) ∘ fun i : Nat => D.int ((k : Int) + 1 + (i : Nat) * 1)) = fun i => decide (v < ((l.drop (k + 1)).getD i (0, 0)).1) := by
    funext i
    show decide (v < valI l ((k : Int) + 1 + (i : Nat) * 1).toNat) = _
    have : ((k : Int) + 1 + (i : Nat) * 1).toNat = k + 1 + i := by omega
    rw [this]
    unfold valI
    rw [List.getD_eq_getElem?_getD, List.getD_eq_getElem?_getD, List.getElem?_drop]
  rw [e1]
  congr 1
  funext i
  show D.int ((bestL l).getD ((k : Int) + 1 + (i : Nat) * 1).toNat 0) = D.int ((bestL (l.drop (k + 1))).getD i 0)
  have : ((k : Int) + 1 + (i : Nat) * 1).toNat = k + 1 + i := by omega
  rw [this, best_drop, List.getD_eq_getElem?_getD, List.getD_eq_getElem?_getD, List.getElem?_drop]
theorem beh_nn (v : Int) {r : List It2} (h : Pos r) : ∀ x ∈ beh v r, 0 ≤ x := by
  have all : ∀ r : List It2, Pos r → ∀ x ∈ bestL r, 0 ≤ x := by
    intro r
    induction r with
    | nil => intro _ x hx; cases hx
    | cons p r ih =>
      obtain ⟨a, b⟩ := p
      intro h x hx
      have hw := h _ List.mem_cons_self
      simp only at hw
      have h0 := mx_nn r (some a) h.tl
      rcases List.mem_cons.mp hx with rfl | hx
      · omega
      · exact ih h.tl x hx
  intro x hx
  unfold beh at hx
  obtain ⟨i, hi, rfl⟩ := List.mem_map.mp hx
  have hi := (List.mem_filter.mp hi).1
  rw [List.mem_range] at hi
  exact all r h _ (getD_mem (by rw [bestL_len]; exact hi))
theorem p_weights_from : ∀ ds QD ED, m_weights_from ds QD ED → c_weights_from (startE N_weights_from ds) { nx := fun _ => QD .non, rt := fun d _ => QD d } ED := by
  intro ds QD ED h
  unfold m_weights_from at h
  split at h
  · rename_i d
    obtain ⟨l, hd, pos, hl, h⟩ := h
    show c_weights_from [.sh d, .no, .no, .no, .no, .no, .no] _ ED
    have hsz : l.length ≤ sizeLine := Nat.le_trans hl (by decide)
    have e0 : (List.replicate l.length (0 : Int)).map D.int = List.replicate l.length (.int 0) := by rw [List.map_replicate]
    have eend : fnd l l.length = List.replicate l.length 0 := by
      unfold fnd
      rw [List.drop_of_length_le (by rw [bestL_len]; exact Nat.le_refl _), List.append_nil]
    have e00 : fnd l 0 = bestL l := rfl
    unfold c_weights_from
    rcases hd with rfl | rfl
    · walk_at "dl"
      rw [its_len, Int.toNat_natCast, rep_flat]
      refine ⟨by decide, ⟨by omega, by omega, by omega⟩, ?_⟩
      refine ⟨l.length, ?_, ?_⟩
      · have := RgC.neg (i := (l.length : Int) - 1) (j := -1) (by omega) (by omega) (by omega) (by omega)
        have e : ((l.length : Int) - 1 - -1).toNat = l.length := by omega
        rw [e] at this
        exact this
      · refine for_inv (fun i ρ => i ≤ l.length ∧ ∃ c2 c3 c4 c5 c6, ρ = [.sh (.lst (itsD l)), .ow (.lst ((fnd l (l.length - i)).map .int)) none, c2, c3, c4, c5, c6]) (k := 0) ⟨Nat.zero_le _, .no, .no, .no, .no, .no, by rw [Nat.sub_zero, eend, e0]⟩ ?_ ?_
        · rintro i x ρ nx hx ⟨hi, c2, c3, c4, c5, c6, rfl⟩ hn
          have hlt := lt_of_at hx
          rw [upto_len] at hlt
          simp only [Nat.zero_add] at hi hn ⊢
          have hx := upto_at hx
          obtain ⟨k, hk⟩ : ∃ k : Nat, l.length - i = k + 1 := ⟨l.length - i - 1, by omega⟩
          have hkl : k + 1 ≤ l.length := by omega
          have ek : (l.length : Int) - 1 + (i : Nat) * -1 = (k : Int) := by omega
          rw [ek] at hx
          subst hx
          have hdr : ∃ v w r, l.drop k = (v, w) :: r := ⟨(l[k]'(by omega)).1, (l[k]'(by omega)).2, l.drop (k + 1), List.drop_eq_getElem_cons (by omega)⟩
          obtain ⟨v, w, r, hdr⟩ := hdr
          obtain ⟨_, hg, hr⟩ := drop_hd hdr
          have a1 := its_at (l := l) (i := (k : Int)) (by omega) (by omega)
          have ev : valI l k = v := by unfold valI; rw [hg]
          have ew : wtI l k = w := by unfold wtI; rw [hg]
          rw [Int.toNat_natCast, ev, ew] at a1
          have hnx := hn [.sh (.lst (itsD l)), .ow (.lst ((fnd l k).map .int)) none, .sh (.int k), .sh (.int v), .sh (.int w), .sh (.lst ((beh v r).map .int)), c6] ⟨by omega, _, _, _, _, _, by rw [show l.length - (i + 1) = k by omega]⟩
          rw [hk]
          clear hn e0 eend e00 hx
          have il := its_len l
          walk_at "dl"
          have em : ((l.length : Int) - ((k : Int) + 1)).toNat = l.length - (k + 1) := by omega
          show (_ ∧ _ ∧ _ ∧ _) ∧ _
          rw [em]
          refine ⟨⟨by omega, by omega, by omega, by omega⟩, by rw [upto_len]; exact Nat.le_trans (Nat.sub_le _ _) hsz, ?_⟩
          refine lc_fun (fun x => [.sh (.lst (itsD l)), .ow (.lst ((fnd l (k + 1)).map .int)) none, .sh (.int k), .sh (.int v), .sh (.int w), c5, .sh x]) (fun x => match x with | .int o => decide (v < valI l o.toNat) | _ => false) (fun x => match x with | .int o => D.int ((bestL l).getD o.toNat 0) | x => x)
            (fun x _ Q q => q) (fun x hx Q q => ?_) (fun x hx _ Q q => ?_) ?_
          · obtain ⟨o, ho⟩ := List.getElem?_of_mem hx
            have hol := lt_of_at ho
            rw [upto_len] at hol
            have ho := upto_at ho
            subst ho
            have a2 := its_at (l := l) (i := (k : Int) + 1 + (o : Nat) * 1) (by omega) (by omega)
            clear hnx
            walk_at "dl"
          · obtain ⟨o, ho⟩ := List.getElem?_of_mem hx
            have hol := lt_of_at ho
            rw [upto_len] at hol
            have ho := upto_at ho
            subst ho
            have a2 := at_ints (cells := fnd l (k + 1)) (a := (k : Int) + 1 + (o : Nat) * 1) (by omega) (by rw [fnd_len l hkl]; omega)
            rw [fnd_at l (by omega)] at a2
            clear hnx
            walk_at "dl"
          · rw [beh_upto l v k hkl, hr]
            have posr : Pos r := fun p hp => pos p (by rw [← hr] at hp; exact List.mem_of_mem_drop hp)
            refine maxD_Z (beh_nn v posr) ?_
            have em2 : (beh v r).foldl max 0 = mx (some v) r := maxZ_beh v r posr
            rw [em2]
            have ei := ix_nn (n := (fnd l (k + 1)).length) (a := (k : Int)) (by omega) (by rw [fnd_len l hkl]; omega)
            have es : ((fnd l (k + 1)).map D.int).set k (.int (w + mx (some v) r)) = (fnd l k).map D.int := by
              rw [← List.map_set, fnd_set hdr]
            rw [Int.toNat_natCast] at ei
            walk_at "dl"
        · rintro ρ ⟨_, c2, c3, c4, c5, c6, rfl⟩
          rw [upto_len, Nat.zero_add, Nat.sub_self, e00]
          walk_at "dl"
    · walk_at "dl"
      rw [its_len, Int.toNat_natCast, rep_flat]
      refine ⟨by decide, ⟨by omega, by omega, by omega⟩, ?_⟩
      refine ⟨l.length, ?_, ?_⟩
      · have := RgC.neg (i := (l.length : Int) - 1) (j := -1) (by omega) (by omega) (by omega) (by omega)
        have e : ((l.length : Int) - 1 - -1).toNat = l.length := by omega
        rw [e] at this
        exact this
      · refine for_inv (fun i ρ => i ≤ l.length ∧ ∃ c2 c3 c4 c5 c6, ρ = [.sh (.tup (itsD l)), .ow (.lst ((fnd l (l.length - i)).map .int)) none, c2, c3, c4, c5, c6]) (k := 0) ⟨Nat.zero_le _, .no, .no, .no, .no, .no, by rw [Nat.sub_zero, eend, e0]⟩ ?_ ?_
        · rintro i x ρ nx hx ⟨hi, c2, c3, c4, c5, c6, rfl⟩ hn
          have hlt := lt_of_at hx
          rw [upto_len] at hlt
          simp only [Nat.zero_add] at hi hn ⊢
          have hx := upto_at hx
          obtain ⟨k, hk⟩ : ∃ k : Nat, l.length - i = k + 1 := ⟨l.length - i - 1, by omega⟩
          have hkl : k + 1 ≤ l.length := by omega
          have ek : (l.length : Int) - 1 + (i : Nat) * -1 = (k : Int) := by omega
          rw [ek] at hx
          subst hx
          have hdr : ∃ v w r, l.drop k = (v, w) :: r := ⟨(l[k]'(by omega)).1, (l[k]'(by omega)).2, l.drop (k + 1), List.drop_eq_getElem_cons (by omega)⟩
          obtain ⟨v, w, r, hdr⟩ := hdr
          obtain ⟨_, hg, hr⟩ := drop_hd hdr
          have a1 := its_at (l := l) (i := (k : Int)) (by omega) (by omega)
          have ev : valI l k = v := by unfold valI; rw [hg]
          have ew : wtI l k = w := by unfold wtI; rw [hg]
          rw [Int.toNat_natCast, ev, ew] at a1
          have hnx := hn [.sh (.tup (itsD l)), .ow (.lst ((fnd l k).map .int)) none, .sh (.int k), .sh (.int v), .sh (.int w), .sh (.lst ((beh v r).map .int)), c6] ⟨by omega, _, _, _, _, _, by rw [show l.length - (i + 1) = k by omega]⟩
          rw [hk]
          clear hn e0 eend e00 hx
          have il := its_len l
          walk_at "dl"
          have em : ((l.length : Int) - ((k : Int) + 1)).toNat = l.length - (k + 1) := by omega
          show (_ ∧ _ ∧ _ ∧ _) ∧ _
          rw [em]
          refine ⟨⟨by omega, by omega, by omega, by omega⟩, by rw [upto_len]; exact Nat.le_trans (Nat.sub_le _ _) hsz, ?_⟩
          refine lc_fun (fun x => [.sh (.tup (itsD l)), .ow (.lst ((fnd l (k + 1)).map .int)) none, .sh (.int k), .sh (.int v), .sh (.int w), c5, .sh x]) (fun x => match x with | .int o => decide (v < valI l o.toNat) | _ => false) (fun x => match x with | .int o => D.int ((bestL l).getD o.toNat 0) | x => x)
            (fun x _ Q q => q) (fun x hx Q q => ?_) (fun x hx _ Q q => ?_) ?_
          · obtain ⟨o, ho⟩ := List.getElem?_of_mem hx
            have hol := lt_of_at ho
            rw [upto_len] at hol
            have ho := upto_at ho
            subst ho
            have a2 := its_at (l := l) (i := (k : Int) + 1 + (o : Nat) * 1) (by omega) (by omega)
            clear hnx
            walk_at "dl"
          · obtain ⟨o, ho⟩ := List.getElem?_of_mem hx
            have hol := lt_of_at ho
            rw [upto_len] at hol
            have ho := upto_at ho
            subst ho
            have a2 := at_ints (cells := fnd l (k + 1)) (a := (k : Int) + 1 + (o : Nat) * 1) (by omega) (by rw [fnd_len l hkl]; omega)
            rw [fnd_at l (by omega)] at a2
            clear hnx
            walk_at "dl"
          · rw [beh_upto l v k hkl, hr]
            have posr : Pos r := fun p hp => pos p (by rw [← hr] at hp; exact List.mem_of_mem_drop hp)
            refine maxD_Z (beh_nn v posr) ?_
            have em2 : (beh v r).foldl max 0 = mx (some v) r := maxZ_beh v r posr
            rw [em2]
            have ei := ix_nn (n := (fnd l (k + 1)).length) (a := (k : Int)) (by omega) (by rw [fnd_len l hkl]; omega)
            have es : ((fnd l (k + 1)).map D.int).set k (.int (w + mx (some v) r)) = (fnd l k).map D.int := by
              rw [← List.map_set, fnd_set hdr]
            rw [Int.toNat_natCast] at ei
            walk_at "dl"
        · rintro ρ ⟨_, c2, c3, c4, c5, c6, rfl⟩
          rw [upto_len, Nat.zero_add, Nat.sub_self, e00]
          walk_at "dl"
  · exact h.elim

end DL.K16

namespace DL.K16
open PySem L2 DL.K13
local macro_rules | `(tactic| walk_at "dl") => `(tactic| simp only [ret, fail, bnd, frz, cC, cVar, bVar, cBin, cNeg, cNot, cAnd, cOr, cIf, vT, tCm, tCh, tTru, tNo, tAn, tOr', cNil, cCons, cTup, cLst, cIx, oNo, oIs, cSl, cCall, callD, cCallK, cB, sNil, sSeq, sDrop, sSet, sAsg, sPar, sRet, sRetN, sIf, sBrk, sCnt, sNo, sFor, sFrz, sApp, sPut, sSetU, uOf, uPop, uPopAt, isOwL, sAdopt,
  gNm, gTp, gsCons, gsNil, tYesD, cLc, iSeq, iRng, iEn, cIsi, cLRg, cBest, cSrtSet, cRev, iZp, cCallF, cCallKF, callF, sRetO, sRetF, tLend, frzE, cDct, prM, cJoin, cel, rgsM, len_lst, len_tup, len_dct, len_str, abs_int, list_lst, list_tup, tuple_lst, tuple_tup, items_lst, items_tup, items_str, enum_lst, enum_tup,
  bin_addI, bin_subI, bin_mulI, bin_divI, bin_modI, bin_powI, bin_addS, bin_addL, bin_addT, bin_mulL, bin_mulT, bin_mulS, cmp_eq, cmp_ne, cmp_lt, cmp_le, cmp_gt, cmp_ge, cmp_is, cmp_isnt, cmp_inS, cmp_ninS, eq_int, eq_str, ix_lst, ix_tup, tru_bl, tru_lst, tru_tup, tru_int, tru_non, non_non, non_int, non_str, non_bl, non_lst, non_tup, at_zero, at_one, at_two,
  isi_non, isi_bl, isi_int, isi_str, isi_lst, isi_tup, isi_dct, sub_tab, List.any_cons, List.any_nil, Bool.or_false, Bool.or_true, Bool.true_or, Bool.false_or, Bool.not_true, Bool.not_false,
  List.getElem?_cons_zero, List.getElem?_cons_succ, List.set_cons_zero, List.set_cons_succ, Bool.false_and, Bool.true_and, Bool.and_false, Bool.and_true, Bool.false_eq_true, if_true, if_false, ite_true, ite_false, List.length_cons, List.length_nil, List.length_map, true_and, and_true, ne_eq, not_true_eq_false, not_false_eq_true, reduceCtorEq, Nat.reduceAdd, Nat.zero_add, Int.cast_ofNat_Int, beq_self_eq_true, decide_true, decide_false, *])
local macro_rules | `(tactic| walk_at "dl0") => `(tactic| simp only [ret, fail, bnd, frz, cC, cVar, bVar, cBin, cNeg, cNot, cAnd, cOr, cIf, vT, tCm, tCh, tTru, tNo, tAn, tOr', cNil, cCons, cTup, cLst, cIx, oNo, oIs, cSl, cCall, callD, cCallK, cB, sNil, sSeq, sDrop, sSet, sAsg, sPar, sRet, sRetN, sIf, sBrk, sCnt, sNo, sFor, sFrz, sApp, sPut, sSetU, uOf, uPop, uPopAt, isOwL, sAdopt,
  gNm, gTp, gsCons, gsNil, tYesD, cLc, iSeq, iRng, iEn, cIsi, cLRg, cBest, cSrtSet, cRev, iZp, cCallF, cCallKF, callF, sRetO, sRetF, tLend, frzE, cDct, prM, cJoin, cel, rgsM, len_lst, len_tup, len_dct, len_str, abs_int, list_lst, list_tup, tuple_lst, tuple_tup, items_lst, items_tup, items_str, enum_lst, enum_tup,
  bin_addI, bin_subI, bin_mulI, bin_divI, bin_modI, bin_powI, bin_addS, bin_addL, bin_addT, bin_mulL, bin_mulT, bin_mulS, cmp_eq, cmp_ne, cmp_lt, cmp_le, cmp_gt, cmp_ge, cmp_is, cmp_isnt, cmp_inS, cmp_ninS, eq_int, eq_str, ix_lst, ix_tup, tru_bl, tru_lst, tru_tup, tru_int, tru_non, non_non, non_int, non_str, non_bl, non_lst, non_tup, at_zero, at_one, at_two,
  isi_non, isi_bl, isi_int, isi_str, isi_lst, isi_tup, isi_dct, sub_tab, List.any_cons, List.any_nil, Bool.or_false, Bool.or_true, Bool.true_or, Bool.false_or, Bool.not_true, Bool.not_false,
  List.getElem?_cons_zero, List.getElem?_cons_succ, List.set_cons_zero, List.set_cons_succ, Bool.false_and, Bool.true_and, Bool.and_false, Bool.and_true, Bool.false_eq_true, if_true, if_false, ite_true, ite_false, List.length_cons, List.length_nil, List.length_map, true_and, and_true, ne_eq, not_true_eq_false, not_false_eq_true, reduceCtorEq, Nat.reduceAdd, Nat.zero_add, Int.cast_ofNat_Int, beq_self_eq_true, decide_true, decide_false])
theorem tops_len (l : List It2) : ∀ k, (tops l k).length = k
  | 0 => rfl
  | k + 1 => by unfold tops; rw [List.length_append, tops_len l k]; rfl
theorem tops_pre (l : List It2) {o k : Nat} (h : o < k) : ∀ m, k ≤ m → (tops l m).getD o 0 = (tops l k).getD o 0
  | 0, hm => by omega
  | m + 1, hm => by
    by_cases e : k = m + 1
    · subst e; rfl
    · rw [← tops_pre l h m (by omega)]
      conv => lhs; unfold tops
      rw [List.getD_eq_getElem?_getD, List.getElem?_append_left (by rw [tops_len]; omega), ← List.getD_eq_getElem?_getD]
theorem tops_at (l : List It2) {i m : Nat} (h : i < m) : (tops l m).getD i 0 = wtI l i + maxZ (((List.range i).filter fun o => decide (valI l o < valI l i)).map fun o => (tops l m).getD o 0) := by
  rw [tops_pre l (Nat.lt_succ_self i) m h]
  conv => lhs; unfold tops
  rw [List.getD_eq_getElem?_getD, List.getElem?_append_right (by rw [tops_len]; exact Nat.le_refl _), tops_len, Nat.sub_self]
  show _ + _ = _
  congr 2
  refine List.map_congr_left fun o ho => ?_
  have := (List.mem_filter.mp ho).1
  rw [List.mem_range] at this
  rw [tops_pre l this m (by omega)]

theorem maxZ_nn : ∀ ns : List Int, 0 ≤ maxZ ns := fun ns => by
  have : ∀ (ns : List Int) (a : Int), a ≤ ns.foldl max a := by
    intro ns
    induction ns with
    | nil => intro a; exact Int.le_refl _
    | cons n ns ih => intro a; rw [List.foldl_cons]; have := ih (max a n); omega
  exact this ns 0
theorem maxZ_ge {ns : List Int} {x : Int} (h : x ∈ ns) : x ≤ maxZ ns := by
  have mono : ∀ (ns : List Int) (a : Int), a ≤ ns.foldl max a := by
    intro ns
    induction ns with
    | nil => intro a; exact Int.le_refl _
    | cons n ns ih => intro a; rw [List.foldl_cons]; have := ih (max a n); omega
  have : ∀ (ns : List Int) (a : Int), x ∈ ns → x ≤ ns.foldl max a := by
    intro ns
    induction ns with
    | nil => intro a h; cases h
    | cons n ns ih =>
      intro a h
      rw [List.foldl_cons]
      rcases List.mem_cons.mp h with rfl | h
      · have := mono ns (max a x); omega
      · exact ih _ h
  exact this ns 0 h
theorem maxZ_mem : ∀ {ns : List Int}, maxZ ns = 0 ∨ maxZ ns ∈ ns := fun {ns} => by
  have : ∀ (ns : List Int) (a : Int), ns.foldl max a = a ∨ ns.foldl max a ∈ ns := by
    intro ns
    induction ns with
    | nil => intro a; exact .inl rfl
    | cons n ns ih =>
      intro a
      rw [List.foldl_cons]
      rcases ih (max a n) with h | h
      · rw [h]
        by_cases c : a ≤ n
        · right; rw [show max a n = n by omega]; exact List.mem_cons_self
        · left; omega
      · right; exact List.mem_cons_of_mem _ h
  exact this ns 0
theorem T_len (l : List It2) : (T l).length = l.length := tops_len l _
def ahd (l : List It2) (i : Nat) : List Int := ((List.range i).filter fun o => decide (valI l o < valI l i)).map fun o => (tops l i).getD o 0
theorem tops_nn {l : List It2} (h : Pos l) : ∀ k, k ≤ l.length → ∀ o, o < k → 0 ≤ (tops l k).getD o 0 := by
  intro k hk o ho
  rw [tops_at l ho]
  have h1 : 1 ≤ wtI l o := by
    unfold wtI
    rw [List.getD_eq_getElem?_getD, List.getElem?_eq_getElem (by omega)]
    exact h _ (List.getElem_mem _)
  have := maxZ_nn (((List.range o).filter fun p => decide (valI l p < valI l o)).map fun p => (tops l k).getD p 0)
  omega
theorem ahd_nn {l : List It2} (h : Pos l) {i : Nat} (hi : i ≤ l.length) : ∀ x ∈ ahd l i, 0 ≤ x := by
  intro x hx
  unfold ahd at hx
  obtain ⟨o, ho, rfl⟩ := List.mem_map.mp hx
  have := (List.mem_filter.mp ho).1
  rw [List.mem_range] at this
  exact tops_nn h i hi o this
/-- the comprehension that both loops have -/
theorem ahd_ok {l : List It2} {d : D} (hd : isIts d l) {i : Nat} (hi : i < l.length) {c2 c4 c5 : Cell} {v : Int} (hv : v = valI l i) {Q : List D → Prop} {E : Xn → Prop} (q : Q ((ahd l i).map .int)) :
    lcM (gNm 6) (tCm .Lt (frz (cIx (frz (cIx (bVar 0) (bVar 6))) (frz (cC (.int 0))))) (bVar 3)) (frz (cIx (bVar 1) (bVar 6))) [.sh d, .ow (.lst ((tops l i).map .int)) none, c2, .sh (.int v), c4, c5, .no] (upto 0 1 i) Q E := by
  have hu : ∀ x ∈ upto 0 1 i, ∃ o : Nat, o < i ∧ x = .int (o : Nat) := fun x hx => by
    obtain ⟨o, ho⟩ := List.getElem?_of_mem hx
    have h1 := lt_of_at ho
    rw [upto_len] at h1
    have h2 := upto_at ho
    have e : (0 : Int) + (o : Nat) * 1 = (o : Nat) := by omega
    rw [e] at h2
    exact ⟨o, h1, h2⟩
  refine lc_fun (fun x => [.sh d, .ow (.lst ((tops l i).map .int)) none, c2, .sh (.int v), c4, c5, .sh x]) (fun x => match x with | .int o => decide (valI l o.toNat < v) | _ => false) (fun x => match x with | .int o => D.int ((tops l i).getD o.toNat 0) | x => x)
    (fun x _ Q q => q) (fun x hx Q q => ?_) (fun x hx _ Q q => ?_) ?_
  · obtain ⟨o, ho, rfl⟩ := hu x hx
    refine its_ix (E := E) hd (show o < l.length by omega) ?_
    have q : Q (decide (valI l ((o : Nat) : Int).toNat < v)) := q
    rw [Int.toNat_natCast] at q
    subst hv
    walk_at "dl"
  · obtain ⟨o, ho, rfl⟩ := hu x hx
    have a2 := at_ints (cells := tops l i) (a := (o : Int)) (by omega) (by rw [tops_len]; omega)
    walk_at "dl"
  · have e : ((upto 0 1 i).filter fun x => match x with | .int o => decide (valI l o.toNat < v) | _ => false).map (fun x => match x with | .int o => D.int ((tops l i).getD o.toNat 0) | x => x) = (ahd l i).map .int := by
      unfold ahd upto
      rw [List.filter_map, List.map_map, List.map_map]
      have e1 : ((fun x : D => match x with | .int o => decide (valI l o.toNat < v) | _ => false) ∘ fun i : Nat => D.int ((0 : Int) + (i : Nat) * 1)) = fun o => decide (valI l o < valI l i) := by
        funext o
        show decide (valI l ((0 : Int) + (o : Nat) * 1).toNat < v) = _
        rw [show ((0 : Int) + (o : Nat) * 1).toNat = o by omega, hv]
      rw [e1]
      refine List.map_congr_left fun o _ => ?_
      show D.int ((tops l i).getD ((0 : Int) + (o : Nat) * 1).toNat 0) = _
      rw [show ((0 : Int) + (o : Nat) * 1).toNat = o by omega]
      rfl
    rw [e]; exact q
theorem tops_snoc (l : List It2) (i : Nat) : (tops l i).map D.int ++ [.int (wtI l i + maxZ (ahd l i))] = (tops l (i + 1)).map .int := by
  show _ = (tops l i ++ [_]).map D.int
  rw [List.map_append]
  rfl
theorem p_weights_up_to : ∀ ds QD ED, m_weights_up_to ds QD ED → c_weights_up_to (startE N_weights_up_to ds) { nx := fun _ => QD .non, rt := fun d _ => QD d } ED := by
  intro ds QD ED h
  unfold m_weights_up_to at h
  split at h
  · rename_i d
    obtain ⟨l, hd, pos, hl, h⟩ := h
    show c_weights_up_to [.sh d, .no, .no, .no, .no, .no, .no] _ ED
    have e4 : ∀ Q : List D → Prop, Q (enumD (itsD l)) → enumM [d] Q ED := fun Q q => by rcases hd with rfl | rfl <;> exact q
    unfold c_weights_up_to sSeq
    refine ⟨Nat.zero_le _, e4 _ ?_⟩
    refine for_inv (k := 0) (fun i ρ => ∃ c2 c3 c4 c5 c6 : Cell, ρ = [.sh d, .ow (.lst ((tops l i).map .int)) none, c2, c3, c4, c5, c6]) ⟨_, _, _, _, _, rfl⟩ ?_ ?_
    · rintro i x ρ nx hx ⟨c2, c3, c4, c5, c6, rfl⟩ hn
      simp only [Nat.zero_add] at hn ⊢
      obtain ⟨v, w, r, hdr, rfl⟩ := enum_at hx
      obtain ⟨hil, hg, hr⟩ := drop_hd hdr
      have ev : v = valI l i := by unfold valI; rw [hg]
      have ew : w = wtI l i := by unfold wtI; rw [hg]
      have hnx := hn [.sh d, .ow (.lst ((tops l (i + 1)).map .int)) none, .sh (.int i), .sh (.int v), .sh (.int w), .sh (.lst ((ahd l i).map .int)), c6] ⟨_, _, _, _, _, rfl⟩
      clear hn
      refine ⟨rfl, ⟨rfl, ?_⟩⟩
      refine (show _ ∧ _ from ⟨⟨by omega, by omega⟩, ?_⟩)
      refine (show _ ∧ _ from ⟨by rw [upto_len]; exact Nat.le_trans (Nat.le_of_lt (show ((i : Nat) : Int).toNat < 250 by omega)) (by decide), ?_⟩)
      rw [show ((i : Nat) : Int).toNat = i by omega]
      refine ahd_ok (c2 := .sh (.int i)) (c4 := .sh (.int w)) (c5 := c5) (E := ED) hd hil ev ?_
      refine ⟨trivial, ?_⟩
      refine maxD_Z (ahd_nn pos (Nat.le_of_lt hil)) ?_
      have e2 : (ahd l i).foldl max 0 = maxZ (ahd l i) := rfl
      have hs := tops_snoc l i
      rw [← ew] at hs
      have hlen : ((tops l i).map D.int).length < sizeLine := by rw [List.length_map, tops_len]; exact Nat.lt_of_lt_of_le (show i < 250 by omega) (by decide)
      refine (show _ ∧ _ from ⟨hlen, ?_⟩)
      rw [e2, hs]
      exact hnx
    · rintro ρ ⟨c2, c3, c4, c5, c6, rfl⟩
      rw [Nat.zero_add, enumD_len, its_len]
      exact h
  · exact h.elim

end DL.K16

namespace DL.K16
open PySem L2 DL.K13
local macro_rules | `(tactic| walk_at "dl") => `(tactic| simp only [ret, fail, bnd, frz, cC, cVar, bVar, cBin, cNeg, cNot, cAnd, cOr, cIf, vT, tCm, tCh, tTru, tNo, tAn, tOr', cNil, cCons, cTup, cLst, cIx, oNo, oIs, cSl, cCall, callD, cCallK, cB, sNil, sSeq, sDrop, sSet, sAsg, sPar, sRet, sRetN, sIf, sBrk, sCnt, sNo, sFor, sFrz, sApp, sPut, sSetU, uOf, uPop, uPopAt, isOwL, sAdopt,
  gNm, gTp, gsCons, gsNil, tYesD, cLc, iSeq, iRng, iEn, cIsi, cLRg, cBest, cSrtSet, cRev, iZp, cCallF, cCallKF, callF, sRetO, sRetF, tLend, frzE, cDct, prM, cJoin, cel, rgsM, len_lst, len_tup, len_dct, len_str, abs_int, list_lst, list_tup, tuple_lst, tuple_tup, items_lst, items_tup, items_str, enum_lst, enum_tup,
  bin_addI, bin_subI, bin_mulI, bin_divI, bin_modI, bin_powI, bin_addS, bin_addL, bin_addT, bin_mulL, bin_mulT, bin_mulS, cmp_eq, cmp_ne, cmp_lt, cmp_le, cmp_gt, cmp_ge, cmp_is, cmp_isnt, cmp_inS, cmp_ninS, eq_int, eq_str, ix_lst, ix_tup, tru_bl, tru_lst, tru_tup, tru_int, tru_non, non_non, non_int, non_str, non_bl, non_lst, non_tup, at_zero, at_one, at_two,
  isi_non, isi_bl, isi_int, isi_str, isi_lst, isi_tup, isi_dct, sub_tab, List.any_cons, List.any_nil, Bool.or_false, Bool.or_true, Bool.true_or, Bool.false_or, Bool.not_true, Bool.not_false,
  List.getElem?_cons_zero, List.getElem?_cons_succ, List.set_cons_zero, List.set_cons_succ, Bool.false_and, Bool.true_and, Bool.and_false, Bool.and_true, Bool.false_eq_true, if_true, if_false, ite_true, ite_false, List.length_cons, List.length_nil, List.length_map, true_and, and_true, ne_eq, not_true_eq_false, not_false_eq_true, reduceCtorEq, Nat.reduceAdd, Nat.zero_add, Int.cast_ofNat_Int, beq_self_eq_true, decide_true, decide_false, *])
local macro_rules | `(tactic| walk_at "dl0") => `(tactic| simp only [ret, fail, bnd, frz, cC, cVar, bVar, cBin, cNeg, cNot, cAnd, cOr, cIf, vT, tCm, tCh, tTru, tNo, tAn, tOr', cNil, cCons, cTup, cLst, cIx, oNo, oIs, cSl, cCall, callD, cCallK, cB, sNil, sSeq, sDrop, sSet, sAsg, sPar, sRet, sRetN, sIf, sBrk, sCnt, sNo, sFor, sFrz, sApp, sPut, sSetU, uOf, uPop, uPopAt, isOwL, sAdopt,
  gNm, gTp, gsCons, gsNil, tYesD, cLc, iSeq, iRng, iEn, cIsi, cLRg, cBest, cSrtSet, cRev, iZp, cCallF, cCallKF, callF, sRetO, sRetF, tLend, frzE, cDct, prM, cJoin, cel, rgsM, len_lst, len_tup, len_dct, len_str, abs_int, list_lst, list_tup, tuple_lst, tuple_tup, items_lst, items_tup, items_str, enum_lst, enum_tup,
  bin_addI, bin_subI, bin_mulI, bin_divI, bin_modI, bin_powI, bin_addS, bin_addL, bin_addT, bin_mulL, bin_mulT, bin_mulS, cmp_eq, cmp_ne, cmp_lt, cmp_le, cmp_gt, cmp_ge, cmp_is, cmp_isnt, cmp_inS, cmp_ninS, eq_int, eq_str, ix_lst, ix_tup, tru_bl, tru_lst, tru_tup, tru_int, tru_non, non_non, non_int, non_str, non_bl, non_lst, non_tup, at_zero, at_one, at_two,
  isi_non, isi_bl, isi_int, isi_str, isi_lst, isi_tup, isi_dct, sub_tab, List.any_cons, List.any_nil, Bool.or_false, Bool.or_true, Bool.true_or, Bool.false_or, Bool.not_true, Bool.not_false,
  List.getElem?_cons_zero, List.getElem?_cons_succ, List.set_cons_zero, List.set_cons_succ, Bool.false_and, Bool.true_and, Bool.and_false, Bool.and_true, Bool.false_eq_true, if_true, if_false, ite_true, ite_false, List.length_cons, List.length_nil, List.length_map, true_and, and_true, ne_eq, not_true_eq_false, not_false_eq_true, reduceCtorEq, Nat.reduceAdd, Nat.zero_add, Int.cast_ofNat_Int, beq_self_eq_true, decide_true, decide_false])
def LoOk (l : List It2) (c : List Nat) (lo : Option Int) : Prop := (c = [] ∧ lo = none) ∨ ∃ h : c ≠ [], lo = some (valI l (c.getLast h)) ∧ c.getLast h < l.length
theorem p_heaviest : ∀ ds QD ED, m_heaviest ds QD ED → c_heaviest (startE N_heaviest ds) { nx := fun _ => QD .non, rt := fun d _ => QD d } ED := by
  intro ds QD ED h
  unfold m_heaviest at h
  split at h
  · rename_i d
    obtain ⟨l, hd, ok, h⟩ := h
    show c_heaviest [.sh d, .no, .no, .no, .no, .no, .no, .no] _ ED
    have e1 : ∀ Q : D → Prop, Q .non → m_need_items [d] Q ED := fun Q q => ⟨l, hd, ok, q⟩
    have e2 : ∀ Q : D → Prop, Q (.lst ((bestL l).map .int)) → m_weights_from [d] Q ED := fun Q q => ⟨l, hd, ok.pos, ok.len, q⟩
    have e3 : ∀ Q : D × Bool → Prop, Q (.int (mx none l), false) → bestDM true (.int 0) [.lst ((bestL l).map .int)] Q ED := fun Q q => by
      refine maxD_Z (fun x hx => ?_) ?_
      · have := beh_nn
        have all : ∀ r : List It2, Pos r → ∀ x ∈ bestL r, 0 ≤ x := by
          intro r
          induction r with
          | nil => intro _ x hx; cases hx
          | cons p r ih =>
            obtain ⟨a, b⟩ := p
            intro h x hx
            have hw := h _ List.mem_cons_self
            simp only at hw
            have h0 := mx_nn r (some a) h.tl
            rcases List.mem_cons.mp hx with rfl | hx
            · omega
            · exact ih h.tl x hx
        exact all l ok.pos x hx
      · have : (bestL l).foldl max 0 = mx none l := maxZ_best l ok.pos
        rw [this]; exact q
    have e4 : ∀ Q : List D → Prop, Q (enumD (itsD l)) → enumM [d] Q ED := fun Q q => by rcases hd with rfl | rfl <;> exact q
    have e5 : ∀ (i : Int) (x : D) (Q : D → Prop), atI (itsD l) i = some x → Q x → ixM d (.int i) Q ED := fun i x Q e q => by
      rcases hd with rfl | rfl
      · show match atI (itsD l) i with | some d => Q d | none => False
        rw [e]; exact q
      · show match atI (itsD l) i with | some d => Q d | none => False
        rw [e]; exact q
    unfold c_heaviest sSeq
    refine ⟨rfl, e1 _ ⟨rfl, e2 _ ?_⟩⟩
    refine e3 _ ⟨Nat.zero_le _, e4 _ ?_⟩
    refine for_inv (k := 0) (fun i ρ => ∃ (c : List Nat) (lo : Option Int) (c4 c5 c6 c7 : Cell), ρ = [.sh d, .sh (.lst ((bestL l).map .int)), .sh (.int (mx lo (l.drop i))), .sh (.tup (intN c)), c4, c5, c6, c7] ∧ LoOk l c lo ∧ c.length ≤ i ∧ c ++ G lo i (l.drop i) = G none 0 l)
      ⟨[], none, _, _, _, _, rfl, .inl ⟨rfl, rfl⟩, Nat.le_refl _, rfl⟩ ?_ ?_
    · rintro i x ρ nx hx ⟨c, lo, c4, c5, c6, c7, rfl, hlo, hcl, hG⟩ hn
      simp only [Nat.zero_add] at hn hcl hG ⊢
      obtain ⟨v, w, r, hdr, rfl⟩ := enum_at hx
      obtain ⟨hil, hg, hr⟩ := drop_hd hdr
      have posr : Pos r := fun p hp => ok.pos p (by rw [← hr] at hp; exact List.mem_of_mem_drop hp)
      have w1 : 1 ≤ w := ok.pos (v, w) (by have := List.mem_of_mem_drop (l := l) (i := i) (a := (v, w)) (by rw [hdr]; exact List.mem_cons_self); exact this)
      have h0 := mx_nn r (some v) posr
      have ab := at_ints (cells := bestL l) (a := (i : Int)) (by omega) (by rw [bestL_len]; omega)
      have eb : (bestL l).getD i 0 = w + mx (some v) r := by rw [List.getD_eq_getElem?_getD, best_at l i v w r hdr]; rfl
      rw [Int.toNat_natCast, eb] at ab
      have hl63 := ok.len
      have fits : ∀ (ρ : Env) (Q : D × Bool → Prop), ρ = [.sh d, .sh (.lst ((bestL l).map .int)), .sh (.int (mx lo (l.drop i))), .sh (.tup (intN c)), .sh (.int i), .sh (.int v), .sh (.int w), c7] → Q (.bl (above lo v), false) →
          cOr (vT (tCm .Eq (bVar 3) (frz (cTup (cNil))))) (vT (tCm .Lt (frz (cIx (frz (cIx (bVar 0) (frz (cIx (bVar 3) (frz (cNeg (frz (cC (.int 1))))))))) (frz (cC (.int 0))))) (bVar 5))) ρ Q ED := fun ρ Q e q => by
        subst e
        clear e1 e2 e3 e4 hn ab h
        walk_at "dl"
        refine ⟨Nat.zero_le _, ?_⟩
        refine eq_nilT (intN_py c) ?_
        rcases hlo with ⟨rfl, rfl⟩ | ⟨hne, rfl, hlast⟩
        · exact q
        · have he : (intN c).isEmpty = false := by
            cases c with
            | nil => exact absurd rfl hne
            | cons a b => rfl
          rw [he]
          have hne2 : intN c ≠ [] := fun z => by rw [z] at he; cases he
          have gm : ∀ h2 : (c.map fun i : Nat => D.int (i : Nat)) ≠ [], (c.map fun i : Nat => D.int (i : Nat)).getLast h2 = .int (c.getLast hne : Nat) := fun h2 => by rw [List.getLast_map]
          have hg2 : (intN c).getLast hne2 = .int (c.getLast hne : Nat) := gm hne2
          have al := at_last (ds := intN c) (h := hne2)
          rw [hg2] at al
          have a2 := its_at (l := l) (i := ((c.getLast hne : Nat) : Int)) (by omega) (by omega)
          rw [Int.toNat_natCast] at a2
          show ixM (.tup (intN c)) (.int (-1)) _ ED
          show match atI (intN c) (-1) with | some d => _ | none => False
          rw [al]
          exact e5 _ _ _ a2 q
      have step : (above lo v && decide (w + mx (some v) r = mx lo (l.drop i))) = true → nx [.sh d, .sh (.lst ((bestL l).map .int)), .sh (.int (mx (some v) r)), .sh (.tup (intN (c ++ [i]))), .sh (.int i), .sh (.int v), .sh (.int w), .sh (.bl (above lo v))] := fun hc => by
        refine hn _ ⟨c ++ [i], some v, _, _, _, _, by rw [hr], .inr ⟨by simp, ?_, ?_⟩, by rw [List.length_append, List.length_singleton]; omega, ?_⟩
        · have gl : ∀ h, (c ++ [i]).getLast h = i := fun h => by simp
          rw [gl]
          unfold valI
          rw [hg]
        · have gl : ∀ h, (c ++ [i]).getLast h = i := fun h => by simp
          rw [gl]; exact hil
        · rw [hr, ← hG, hdr, G_cons, List.append_assoc]
          rw [hdr] at hc
          rw [if_pos hc]
          rfl
      have step2 : (above lo v && decide (w + mx (some v) r = mx lo (l.drop i))) = false → mx lo (l.drop i) = mx lo r ∧ nx [.sh d, .sh (.lst ((bestL l).map .int)), .sh (.int (mx lo (l.drop i))), .sh (.tup (intN c)), .sh (.int i), .sh (.int v), .sh (.int w), .sh (.bl (above lo v))] := fun hc => by
        have em : mx lo (l.drop i) = mx lo r := by
          rw [hdr] at hc ⊢
          rw [mx_cons]
          by_cases a : above lo v = true
          · rw [if_pos a]
            rw [a, Bool.true_and, decide_eq_false_iff_not, mx_cons, if_pos a] at hc
            omega
          · rw [if_neg a]
        refine ⟨em, hn _ ⟨c, lo, _, _, _, _, by rw [hr, em], ?_, by omega, ?_⟩⟩
        · exact hlo
        · rw [hr, ← hG, hdr, G_cons]
          rw [hdr] at hc
          rw [hc, if_neg Bool.false_ne_true]
      clear hn e1 e2 e3 e4
      refine ⟨rfl, ⟨rfl, fits _ _ rfl ?_⟩⟩
      clear fits e5
      generalize hL : mx lo (l.drop i) = left at step step2 ⊢
      generalize above lo v = av at step step2 ⊢
      have eN : intN c ++ [.int (i : Nat)] = intN (c ++ [i]) := by unfold intN; rw [List.map_append]; rfl
      have cl : (intN c).length = c.length := by unfold intN; rw [List.length_map]
      have cl2 : (intN c).length + 1 ≤ sizeLine := by rw [cl, sizeLine_eq]; omega
      have sub : w + mx (some v) r - w = mx (some v) r := by omega
      cases av with
      | false =>
        have q := (step2 (by rw [Bool.false_and])).2
        clear step step2
        by_cases hp : (0 : Int) < left
        · have hp' := decide_eq_true hp
          walk_at "dl"
        · have hp' := decide_eq_false hp
          walk_at "dl"
      | true =>
        by_cases he : w + mx (some v) r = left
        · have q := step (by rw [Bool.true_and, decide_eq_true_eq]; exact he)
          clear step step2
          subst he
          have hp' : decide ((0 : Int) < w + mx (some v) r) = true := decide_eq_true (by omega)
          walk_at "dl"
          exact ⟨by decide, by rw [sizeLine_eq]; omega⟩
        · have q := (step2 (by rw [Bool.true_and, decide_eq_false_iff_not]; exact he)).2
          have hb : (w + mx (some v) r == left) = false := by simpa using he
          clear step step2
          by_cases hp : (0 : Int) < left
          · have hp' := decide_eq_true hp
            walk_at "dl"
          · have hp' := decide_eq_false hp
            walk_at "dl"
    · rintro ρ ⟨c, lo, c4, c5, c6, c7, rfl, hlo, hcl, hG⟩
      rw [Nat.zero_add, enumD_len, its_len, List.drop_length] at hG
      have hG : c ++ [] = G none 0 l := hG
      rw [List.append_nil] at hG
      subst hG
      exact h
  · exact h.elim

end DL.K16

namespace DL.K16
open PySem L2 DL.K13
local macro_rules | `(tactic| walk_at "dl") => `(tactic| simp only [ret, fail, bnd, frz, cC, cVar, bVar, cBin, cNeg, cNot, cAnd, cOr, cIf, vT, tCm, tCh, tTru, tNo, tAn, tOr', cNil, cCons, cTup, cLst, cIx, oNo, oIs, cSl, cCall, callD, cCallK, cB, sNil, sSeq, sDrop, sSet, sAsg, sPar, sRet, sRetN, sIf, sBrk, sCnt, sNo, sFor, sFrz, sApp, sPut, sSetU, uOf, uPop, uPopAt, isOwL, sAdopt,
  gNm, gTp, gsCons, gsNil, tYesD, cLc, iSeq, iRng, iEn, cIsi, cLRg, cBest, cSrtSet, cRev, iZp, cCallF, cCallKF, callF, sRetO, sRetF, tLend, frzE, cDct, prM, cJoin, cel, rgsM, len_lst, len_tup, len_dct, len_str, abs_int, list_lst, list_tup, tuple_lst, tuple_tup, items_lst, items_tup, items_str, enum_lst, enum_tup,
  bin_addI, bin_subI, bin_mulI, bin_divI, bin_modI, bin_powI, bin_addS, bin_addL, bin_addT, bin_mulL, bin_mulT, bin_mulS, cmp_eq, cmp_ne, cmp_lt, cmp_le, cmp_gt, cmp_ge, cmp_is, cmp_isnt, cmp_inS, cmp_ninS, eq_int, eq_str, ix_lst, ix_tup, tru_bl, tru_lst, tru_tup, tru_int, tru_non, non_non, non_int, non_str, non_bl, non_lst, non_tup, at_zero, at_one, at_two,
  isi_non, isi_bl, isi_int, isi_str, isi_lst, isi_tup, isi_dct, sub_tab, List.any_cons, List.any_nil, Bool.or_false, Bool.or_true, Bool.true_or, Bool.false_or, Bool.not_true, Bool.not_false,
  List.getElem?_cons_zero, List.getElem?_cons_succ, List.set_cons_zero, List.set_cons_succ, Bool.false_and, Bool.true_and, Bool.and_false, Bool.and_true, Bool.false_eq_true, if_true, if_false, ite_true, ite_false, List.length_cons, List.length_nil, List.length_map, true_and, and_true, ne_eq, not_true_eq_false, not_false_eq_true, reduceCtorEq, Nat.reduceAdd, Nat.zero_add, Int.cast_ofNat_Int, beq_self_eq_true, decide_true, decide_false, *])
local macro_rules | `(tactic| walk_at "dl0") => `(tactic| simp only [ret, fail, bnd, frz, cC, cVar, bVar, cBin, cNeg, cNot, cAnd, cOr, cIf, vT, tCm, tCh, tTru, tNo, tAn, tOr', cNil, cCons, cTup, cLst, cIx, oNo, oIs, cSl, cCall, callD, cCallK, cB, sNil, sSeq, sDrop, sSet, sAsg, sPar, sRet, sRetN, sIf, sBrk, sCnt, sNo, sFor, sFrz, sApp, sPut, sSetU, uOf, uPop, uPopAt, isOwL, sAdopt,
  gNm, gTp, gsCons, gsNil, tYesD, cLc, iSeq, iRng, iEn, cIsi, cLRg, cBest, cSrtSet, cRev, iZp, cCallF, cCallKF, callF, sRetO, sRetF, tLend, frzE, cDct, prM, cJoin, cel, rgsM, len_lst, len_tup, len_dct, len_str, abs_int, list_lst, list_tup, tuple_lst, tuple_tup, items_lst, items_tup, items_str, enum_lst, enum_tup,
  bin_addI, bin_subI, bin_mulI, bin_divI, bin_modI, bin_powI, bin_addS, bin_addL, bin_addT, bin_mulL, bin_mulT, bin_mulS, cmp_eq, cmp_ne, cmp_lt, cmp_le, cmp_gt, cmp_ge, cmp_is, cmp_isnt, cmp_inS, cmp_ninS, eq_int, eq_str, ix_lst, ix_tup, tru_bl, tru_lst, tru_tup, tru_int, tru_non, non_non, non_int, non_str, non_bl, non_lst, non_tup, at_zero, at_one, at_two,
  isi_non, isi_bl, isi_int, isi_str, isi_lst, isi_tup, isi_dct, sub_tab, List.any_cons, List.any_nil, Bool.or_false, Bool.or_true, Bool.true_or, Bool.false_or, Bool.not_true, Bool.not_false,
  List.getElem?_cons_zero, List.getElem?_cons_succ, List.set_cons_zero, List.set_cons_succ, Bool.false_and, Bool.true_and, Bool.and_false, Bool.and_true, Bool.false_eq_true, if_true, if_false, ite_true, ite_false, List.length_cons, List.length_nil, List.length_map, true_and, and_true, ne_eq, not_true_eq_false, not_false_eq_true, reduceCtorEq, Nat.reduceAdd, Nat.zero_add, Int.cast_ofNat_Int, beq_self_eq_true, decide_true, decide_false])
theorem spL_len (l : List It2) : (spL l).length = l.length := by
  unfold spL
  rw [List.length_zipWith, T_len, Nat.min_self]
theorem spL_pairs : ∀ (l : List It2) (t : List Int), (pairs (itsD l) (t.map .int)).map (fun x => match x with | .tup [.tup [_, .int w], .int t] => D.tup [.int (t - w), .int t] | x => x) = itsD (List.zipWith (fun (p : It2) (t : Int) => (t - p.2, t)) l t)
  | [], t => by cases t <;> rfl
  | p :: l, [] => rfl
  | p :: l, a :: t => by
    have ih := spL_pairs l t
    exact congrArg (List.cons (D.tup [.int (a - p.2), .int a])) ih
theorem lc2_levels {ρ : Env} {E : Xn → Prop} : ∀ (sp : List It2) (acc : List D) (Q : List D → Prop), acc.length + 2 * sp.length ≤ sizeLine → (∀ (ρ' : Env), True) →
    Q (acc ++ sp.flatMap fun p => [D.tup [.int p.1, .bl true], .tup [.int p.2, .bl true]]) → (hρ : ∃ a0 a1 a2 a3 a4 a5 a6 a7 a8 a9 a10 a11 a12, ρ = [a0, a1, a2, a3, a4, a5, a6, a7, a8, a9, a10, a11, a12]) →
    lcM2 (gNm 6) tYesD (iSeq (frz (cVar 6))) (gNm 7) tYesD [7] (frz (cTup (cCons (frz (cVar 7)) (cCons (frz (cC (.bl true))) cNil)))) ρ (itsD sp) acc Q E
  | [], acc, Q, _, _, q, _ => by
    show Q acc
    rw [List.flatMap_nil, List.append_nil] at q
    exact q
  | p :: sp, acc, Q, hl, hh, q, ⟨a0, a1, a2, a3, a4, a5, a6, a7, a8, a9, a10, a11, a12, e⟩ => by
    subst e
    have hl' : acc.length + 2 * (sp.length + 1) ≤ sizeLine := hl
    refine (show _ ∧ _ from ⟨by show 2 ≤ sizeLine; decide, ?_⟩)
    refine (show _ ∧ _ from ⟨by omega, ?_⟩)
    refine (show _ ∧ _ from ⟨by show 2 ≤ sizeLine; decide, ?_⟩)
    refine (show _ ∧ _ from ⟨by rw [List.length_append, List.length_singleton]; omega, ?_⟩)
    refine lc2_levels sp _ Q ?_ hh ?_ ⟨_, _, _, _, _, _, _, _, _, _, _, _, _, rfl⟩
    · rw [List.length_append, List.length_append, List.length_singleton, List.length_singleton]; omega
    · rw [List.flatMap_cons] at q
      rw [List.append_assoc, List.append_assoc]
      exact q
theorem kvs_levels : ∀ sp : List It2, kvsD (sp.flatMap fun p => [D.tup [.int p.1, .bl true], .tup [.int p.2, .bl true]]) = some (sp.flatMap fun p => [((Sum.inl p.1 : Key), D.bl true), (Sum.inl p.2, D.bl true)])
  | [] => rfl
  | p :: sp => by
    have ih := kvs_levels sp
    rw [List.flatMap_cons, List.flatMap_cons]
    show kvsD (D.tup [.int p.1, .bl true] :: D.tup [.int p.2, .bl true] :: _) = _
    simp only [kvsD, keyD, List.nil_append, List.append_eq]
    rw [ih]
    rfl
def AllI (kvs : List (Key × D)) : Prop := ∀ x ∈ kvs, ∃ i : Int, x.1 = .inl i
theorem putG_all {kvs : List (Key × D)} {i : Int} {v : D} (h : AllI kvs) : AllI (putG kvs (.inl i) v) := by
  unfold putG
  split
  · intro x hx
    obtain ⟨y, hy, rfl⟩ := List.mem_map.mp hx
    split
    · exact h y hy
    · exact h y hy
  · intro x hx
    rcases List.mem_append.mp hx with hx | hx
    · exact h x hx
    · rw [List.mem_singleton] at hx; subst hx; exact ⟨i, rfl⟩
theorem putG_keys {kvs : List (Key × D)} {k : Key} {v : D} : (kvs.map fun p => p.1).Nodup → ((putG kvs k v).map fun p => p.1).Nodup ∧ ∀ z, z ∈ (putG kvs k v).map (fun p => p.1) ↔ z ∈ kvs.map (fun p => p.1) ∨ z = k := by
  intro nd
  unfold putG
  split
  · rename_i h
    have e : (kvs.map fun kv => if kv.1 = k then (kv.1, v) else kv).map (fun p => p.1) = kvs.map fun p => p.1 := by
      rw [List.map_map]
      refine List.map_congr_left fun p _ => ?_
      show (if p.1 = k then (p.1, v) else p).1 = p.1
      split <;> rfl
    rw [e]
    refine ⟨nd, fun z => ⟨.inl, fun h2 => ?_⟩⟩
    rcases h2 with h2 | h2
    · exact h2
    · subst h2
      obtain ⟨p, hp, e2⟩ := List.any_eq_true.mp h
      have e2 := of_decide_eq_true e2
      rw [← e2]
      exact List.mem_map_of_mem hp
  · rename_i h
    rw [List.map_append]
    refine ⟨?_, fun z => ?_⟩
    · rw [List.nodup_append]
      refine ⟨nd, by simp, ?_⟩
      intro a ha b hb e
      subst e
      have hb : a = k := by simpa using hb
      subst hb
      obtain ⟨p, hp, e2⟩ := List.mem_map.mp ha
      exact h (List.any_eq_true.mpr ⟨p, hp, decide_eq_true e2⟩)
    · rw [List.mem_append]
      constructor
      · rintro (h2 | h2)
        · exact .inl h2
        · right; simpa using h2
      · rintro (h2 | h2)
        · exact .inl h2
        · right; subst h2; simp
theorem merge_keys : ∀ (more acc : List (Key × D)), AllI acc → AllI more → (acc.map fun p => p.1).Nodup → AllI (mergeG acc more) ∧ ((mergeG acc more).map fun p => p.1).Nodup ∧ ∀ z, z ∈ (mergeG acc more).map (fun p => p.1) ↔ z ∈ acc.map (fun p => p.1) ∨ z ∈ more.map fun p => p.1
  | [], acc, ha, _, nd => ⟨ha, nd, fun z => by simp [mergeG]⟩
  | (k, v) :: more, acc, ha, hm, nd => by
    obtain ⟨i, hi⟩ := hm _ List.mem_cons_self
    have hi : k = .inl i := hi
    subst hi
    obtain ⟨q1, q2⟩ := putG_keys (k := Sum.inl i) (v := v) nd
    obtain ⟨r1, r2, r3⟩ := merge_keys more (putG acc (.inl i) v) (putG_all ha) (fun x hx => hm x (List.mem_cons_of_mem _ hx)) q1
    refine ⟨r1, r2, fun z => ?_⟩
    show z ∈ (mergeG (putG acc (.inl i) v) more).map _ ↔ _
    rw [r3, q2, List.map_cons, List.mem_cons]
    constructor
    · rintro ((h | h) | h)
      · exact .inl h
      · exact .inr (.inl h)
      · exact .inr (.inr h)
    · rintro (h | h | h)
      · exact .inl (.inl h)
      · exact .inl (.inr h)
      · exact .inr h
theorem keysI_all : ∀ {kvs : List (Key × D)}, AllI kvs → keysI (unK kvs) = some (kvs.filterMap fun x => match x.1 with | .inl i => some i | _ => none) ∧ kvs.map (fun p => p.1) = (kvs.filterMap fun x => match x.1 with | .inl i => some i | _ => none).map Sum.inl
  | [], _ => ⟨rfl, rfl⟩
  | (k, v) :: kvs, h => by
    obtain ⟨i, hi⟩ := h _ List.mem_cons_self
    have hi : k = .inl i := hi
    subst hi
    obtain ⟨h1, h2⟩ := keysI_all (kvs := kvs) fun x hx => h x (List.mem_cons_of_mem _ hx)
    constructor
    · show (keysI (unK kvs)).map (i :: ·) = _
      rw [h1]; rfl
    · show _ :: _ = _ :: _
      rw [h2]
theorem lv_kvs (l : List It2) : AllI ((spL l).flatMap fun p => [((Sum.inl p.1 : Key), D.bl true), (Sum.inl p.2, D.bl true)]) := by
  intro x hx
  obtain ⟨p, _, hp⟩ := List.mem_flatMap.mp hx
  simp only [List.mem_cons, List.not_mem_nil, or_false] at hp
  rcases hp with rfl | rfl
  · exact ⟨_, rfl⟩
  · exact ⟨_, rfl⟩
theorem lvK_spec (l : List It2) : (lvK l).Nodup ∧ ∀ z, z ∈ lvK l ↔ ∃ p ∈ spL l, z = p.1 ∨ z = p.2 := by
  obtain ⟨h1, h2, h3⟩ := merge_keys ((spL l).flatMap fun p => [((Sum.inl p.1 : Key), D.bl true), (Sum.inl p.2, D.bl true)]) [] (fun x hx => by cases hx) (lv_kvs l) (by simp)
  obtain ⟨_, e⟩ := keysI_all h1
  have e : (mergeG [] _).map (fun p => p.1) = (lvK l).map Sum.inl := e
  rw [e] at h2 h3
  constructor
  · unfold List.Nodup at h2 ⊢
    rw [List.pairwise_map] at h2
    exact h2.imp fun hne q => hne (by rw [q])
  · intro z
    have := h3 (Sum.inl z)
    rw [List.mem_map] at this
    constructor
    · intro hz
      rcases this.mp ⟨z, hz, rfl⟩ with q | q
      · cases q
      · obtain ⟨x, hx, ex⟩ := List.mem_map.mp q
        obtain ⟨p, hp, hx⟩ := List.mem_flatMap.mp hx
        refine ⟨p, hp, ?_⟩
        simp only [List.mem_cons, List.not_mem_nil, or_false] at hx
        rcases hx with rfl | rfl
        · left; exact (Sum.inl.inj ex).symm
        · right; exact (Sum.inl.inj ex).symm
    · rintro ⟨p, hp, hz⟩
      obtain ⟨y, hy, ey⟩ := this.mpr (.inr (by
        rw [List.mem_map]
        rcases hz with rfl | rfl
        · exact ⟨(.inl p.1, .bl true), List.mem_flatMap.mpr ⟨p, hp, by simp⟩, rfl⟩
        · exact ⟨(.inl p.2, .bl true), List.mem_flatMap.mpr ⟨p, hp, by simp⟩, rfl⟩))
      rw [← Sum.inl.inj ey]; exact hy
theorem its_at' {sp : List It2} {i : Nat} {x : D} (h : (enumD (itsD sp))[i]? = some x) : i < sp.length ∧ x = .tup [.int i, .tup [.int (valI sp i), .int (wtI sp i)]] := by
  obtain ⟨v, w, r, hdr, rfl⟩ := enum_at h
  obtain ⟨hil, hg, _⟩ := drop_hd hdr
  refine ⟨hil, ?_⟩
  have ev : valI sp i = v := by unfold valI; rw [hg]
  have ew : wtI sp i = w := by unfold wtI; rw [hg]
  rw [ev, ew]
theorem fall_eq (sp : List It2) (a b : Int) : ((enumD (itsD sp)).filter fun x => match x with | .tup [.int _, .tup [.int v, .int w]] => decide (v ≤ a) && decide (b ≤ w) | _ => false).map (fun x => match x with | .tup [.int i, _] => D.int i | x => x) = intN (fallL sp a b) := by
  have e : enumD (itsD sp) = (List.range sp.length).map fun i : Nat => D.tup [.int (i : Nat), .tup [.int (valI sp i), .int (wtI sp i)]] := by
    apply List.ext_getElem?
    intro i
    rw [List.getElem?_map]
    cases h : (enumD (itsD sp))[i]? with
    | none =>
      rw [List.getElem?_eq_none_iff, enumD_len, its_len] at h
      rw [List.getElem?_eq_none (by rw [List.length_range]; exact h)]
      rfl
    | some x =>
      obtain ⟨hi, rfl⟩ := its_at' h
      rw [List.getElem?_range hi]
      rfl
  rw [e, List.filter_map, List.map_map]
  unfold intN fallL
  rfl
theorem p_cover : ∀ ds QD ED, m_cover ds QD ED → c_cover (startE N_cover ds) { nx := fun _ => False, rt := fun _ _ => False, ro := fun d _ => QD d } ED := by
  intro ds QD ED h
  unfold m_cover at h
  split at h
  · rename_i d
    obtain ⟨l, hd, ok, h⟩ := h
    show c_cover [.sh d, .no, .no, .no, .no, .no, .no, .no, .no, .no, .no, .no, .no] _ ED
    have hl := ok.len
    have e1 : ∀ Q : D → Prop, Q .non → m_need_items [d] Q ED := fun Q q => ⟨l, hd, ok, q⟩
    have e2 : ∀ Q : D → Prop, Q (.lst ((T l).map .int)) → m_weights_up_to [d] Q ED := fun Q q => ⟨l, hd, ok.pos, ok.len, q⟩
    have main : ∀ Q : D × Bool → Prop, Q (.lst (itsD (spL l)), true) → cLc [3, 4] (iZp (cCons (frz (cVar 0)) (cCons (frz (cVar 1)) (cNil)))) (gTp 2 (gsCons (gNm 3) (gsCons (gNm 4) (gsNil)))) (tYesD) (frz (cTup (cCons (frz (cBin .Sub (bVar 4) (frz (cIx (bVar 3) (frz (cC (.int 1))))))) (cCons (frz (cVar 4)) (cNil)))))
        [.sh d, .sh (.lst ((T l).map .int)), .no, .no, .no, .no, .no, .no, .no, .no, .no, .no, .no] Q ED := fun Q q => by
      have m2 : (pairs (itsD l) ((T l).map D.int)).length ≤ sizeLine ∧ lcM (gTp 2 (gsCons (gNm 3) (gsCons (gNm 4) (gsNil)))) (tYesD) (frz (cTup (cCons (frz (cBin .Sub (bVar 4) (frz (cIx (bVar 3) (frz (cC (.int 1))))))) (cCons (frz (cVar 4)) (cNil)))))
          [.sh d, .sh (.lst ((T l).map .int)), .no, .no, .no, .no, .no, .no, .no, .no, .no, .no, .no] (pairs (itsD l) ((T l).map D.int)) (fun r => Q (.lst r, true)) ED := by
        refine ⟨by rw [pairs_len, its_len, List.length_map, T_len, Nat.min_self, sizeLine_eq]; omega, ?_⟩
        refine lc_fun (fun x => match x with | .tup [p, t] => [.sh d, .sh (.lst ((T l).map .int)), .no, .sh p, .sh t, .no, .no, .no, .no, .no, .no, .no, .no] | _ => []) (fun _ => true) (fun x => match x with | .tup [.tup [_, .int w], .int t] => D.tup [.int (t - w), .int t] | x => x)
          (fun x hx Q q => ?_) (fun x _ Q q => q) (fun x hx _ Q q => ?_) ?_
        · obtain ⟨i, hi⟩ := List.getElem?_of_mem hx
          obtain ⟨a, b, rfl, _, _⟩ := pairs_at hi
          exact ⟨rfl, q⟩
        · obtain ⟨i, hi⟩ := List.getElem?_of_mem hx
          obtain ⟨a, b, rfl, h1, h2⟩ := pairs_at hi
          have ha := List.mem_of_getElem? h1
          have hb := List.mem_of_getElem? h2
          unfold itsD at ha
          obtain ⟨p, _, rfl⟩ := List.mem_map.mp ha
          obtain ⟨t, _, rfl⟩ := List.mem_map.mp hb
          exact (show _ ∧ _ from ⟨by show 2 ≤ sizeLine; decide, q⟩)
        · rw [List.filter_eq_self.mpr fun _ _ => rfl, spL_pairs]
          exact q
      rcases hd with rfl | rfl
      · exact m2
      · exact m2
    unfold c_cover sSeq
    refine ⟨rfl, e1 _ ⟨rfl, e2 _ ?_⟩⟩
    dsimp only [sSet]
    refine main _ ?_
    refine lc2_levels (spL l) [] _ (by rw [spL_len, sizeLine_eq]; show 0 + _ ≤ _; omega) (fun _ => trivial) ?_ ⟨_, _, _, _, _, _, _, _, _, _, _, _, _, rfl⟩
    rw [List.nil_append]
    have hdict : ∀ Q : D × Bool → Prop, Q (.dct (unK (mergeG [] ((spL l).flatMap fun p => [((Sum.inl p.1 : Key), D.bl true), (Sum.inl p.2, D.bl true)]))), true) → dictM [.lst ((spL l).flatMap fun p => [D.tup [.int p.1, .bl true], .tup [.int p.2, .bl true]])] Q ED := fun Q q => by
      show match kvsD _ with | some kvs => Q (.dct (unK (mergeG [] kvs)), true) | none => False
      rw [kvs_levels]; exact q
    dsimp only [ret, bnd, cNil]
    refine hdict _ ?_
    have hsrt : ∀ Q : D × Bool → Prop, Q (.lst ((lvL l).map .int), true) → sortedM2 [.dct (unK (mergeG [] ((spL l).flatMap fun p => [((Sum.inl p.1 : Key), D.bl true), (Sum.inl p.2, D.bl true)])))] Q ED := fun Q q => by
      show match keysI _ with | some ns => Q (.lst ((srtI ns).map D.int), true) | none => False
      rw [(keysI_all (merge_keys _ [] (fun x hx => by cases hx) (lv_kvs l) (by simp)).1).1]
      exact q
    refine hsrt _ ?_
    refine (show _ ∧ _ from ⟨Nat.zero_le _, ?_⟩)
    have hcut : cutA ((lvL l).map D.int) (some 1) none = ((lvL l).drop 1).map D.int := by
      rw [show (1 : Int) = ((1 : Nat) : Int) from rfl, cut_drop, List.map_drop]
    show forM _ _ (pairs ((lvL l).map .int) (cutA ((lvL l).map .int) (some 1) none)) _ _ ED
    rw [hcut]
    have hlv : (lvL l).length ≤ 1000 := by
      unfold lvL
      rw [(srtI_perm _).length_eq]
      unfold lvK
      refine Nat.le_trans (List.length_filterMap_le _ _) ?_
      have hm : ∀ (more acc : List (Key × D)), (mergeG acc more).length ≤ acc.length + more.length := by
        intro more
        induction more with
        | nil => intro acc; exact Nat.le_refl _
        | cons x more ih =>
          intro acc
          refine Nat.le_trans (ih (putG acc x.1 x.2)) ?_
          have : (putG acc x.1 x.2).length ≤ acc.length + 1 := by
            unfold putG
            split
            · rw [List.length_map]; omega
            · rw [List.length_append, List.length_singleton]; exact Nat.le_refl _
          rw [List.length_cons]; omega
      refine Nat.le_trans (hm _ []) ?_
      have : ∀ sp : List It2, (sp.flatMap fun p => [((Sum.inl p.1 : Key), D.bl true), (Sum.inl p.2, D.bl true)]).length = 2 * sp.length := by
        intro sp
        induction sp with
        | nil => rfl
        | cons p sp ih => rw [List.flatMap_cons, List.length_append, ih]; simp only [List.length_cons, List.length_nil]; omega
      rw [this, spL_len]
      show 0 + _ ≤ _
      omega
    have hcl : (covL l).length ≤ (lvL l).length := by unfold covL; rw [List.length_zipWith]; exact Nat.min_le_left _ _
    refine for_inv (k := 0) (fun i ρ => ∃ c3 c4 c6 c7 c9 c10 c11 c12 : Cell, ρ = [.sh d, .sh (.lst ((T l).map .int)), .sh (.lst (itsD (spL l))), c3, c4, .sh (.lst ((lvL l).map .int)), c6, c7, .ow (.lst (((covL l).take i).map covD)) none, c9, c10, c11, c12])
      ⟨_, _, _, _, _, _, _, _, rfl⟩ ?_ ?_
    · rintro i x ρ nx hx ⟨c3, c4, c6, c7, c9, c10, c11, c12, rfl⟩ hn
      simp only [Nat.zero_add] at hn ⊢
      obtain ⟨_, _, rfl, h1, h2⟩ := pairs_at hx
      rw [List.getElem?_map] at h1 h2
      obtain ⟨a, ea, e1⟩ := Option.map_eq_some_iff.mp h1
      obtain ⟨b, eb, e2⟩ := Option.map_eq_some_iff.mp h2
      subst e1; subst e2
      have hcov : (covL l)[i]? = some (fallL (spL l) a b, b - a) := by
        unfold covL
        rw [List.getElem?_zipWith, ea, eb]
      refine (show _ ∧ _ from ⟨rfl, ?_⟩)
      refine (show _ ∧ _ from ⟨by rw [enumD_len, its_len, spL_len, sizeLine_eq]; omega, ?_⟩)
      refine lc_fun (fun x => match x with | .tup [z, p] => [.sh d, .sh (.lst ((T l).map .int)), .sh (.lst (itsD (spL l))), c3, c4, .sh (.lst ((lvL l).map .int)), .sh p, c7, .ow (.lst (((covL l).take i).map covD)) none, .sh (.int a), .sh (.int b), c11, .sh z] | _ => [])
        (fun x => match x with | .tup [.int _, .tup [.int v, .int w]] => decide (v ≤ a) && decide (b ≤ w) | _ => false) (fun x => match x with | .tup [.int i, _] => D.int i | x => x)
        (fun x hx Q q => ?_) (fun x hx Q q => ?_) (fun x hx _ Q q => ?_) ?_
      · obtain ⟨j, hj⟩ := List.getElem?_of_mem hx
        obtain ⟨_, rfl⟩ := its_at' hj
        exact ⟨rfl, q⟩
      · obtain ⟨j, hj⟩ := List.getElem?_of_mem hx
        obtain ⟨_, rfl⟩ := its_at' hj
        have q : Q (decide (valI (spL l) j ≤ a) && decide (b ≤ wtI (spL l) j)) := q
        clear hn h
        by_cases hc : valI (spL l) j ≤ a
        · rw [decide_eq_true hc, Bool.true_and] at q
          have hc' := decide_eq_true hc
          walk_at "dl"
        · rw [decide_eq_false hc, Bool.false_and] at q
          have hc' := decide_eq_false hc
          walk_at "dl"
      · obtain ⟨j, hj⟩ := List.getElem?_of_mem hx
        obtain ⟨_, rfl⟩ := its_at' hj
        exact q
      rw [fall_eq]
      have hlt := lt_of_at hcov
      refine (show _ ∧ _ from ⟨trivial, ?_⟩)
      refine (show _ ∧ _ from ⟨by show 2 ≤ sizeLine; decide, ?_⟩)
      refine (show _ ∧ _ from ⟨by rw [List.length_map, List.length_take, sizeLine_eq]; omega, ?_⟩)
      refine hn _ ⟨c3, c4, c6, c7, .sh (.int a), .sh (.int b), .sh (.tup (intN (fallL (spL l) a b))), c12, ?_⟩
      have et : ((covL l).take i).map covD ++ [covD (fallL (spL l) a b, b - a)] = ((covL l).take (i + 1)).map covD := by
        rw [List.take_add_one, hcov, List.map_append]
        rfl
      rw [← et]
      rfl
    · rintro ρ ⟨c3, c4, c6, c7, c9, c10, c11, c12, rfl⟩
      have e : (covL l).length = (pairs ((lvL l).map D.int) (((lvL l).drop 1).map D.int)).length := by
        unfold covL
        rw [List.length_zipWith, pairs_len, List.length_map, List.length_map]
      rw [Nat.zero_add, ← e, List.take_length]
      exact h
  · exact h.elim
theorem up_len : ∀ (n : Nat) (c : List Nat), c.Pairwise (· < ·) → (∀ x ∈ c, x < n) → c.length ≤ n := by
  intro n
  induction n with
  | zero =>
    intro c _ h
    cases c with
    | nil => exact Nat.le_refl _
    | cons a b => exact absurd (h a List.mem_cons_self) (Nat.not_lt_zero _)
  | succ n ih =>
    intro c p h
    rcases List.eq_nil_or_concat c with rfl | ⟨d, z, rfl⟩
    · exact Nat.zero_le _
    · rw [List.concat_eq_append] at p h ⊢
      rw [List.pairwise_append] at p
      have hz := h z (by simp)
      have := ih d p.1 fun x hx => by have := p.2.2 x hx z List.mem_cons_self; omega
      rw [List.length_append, List.length_singleton]
      omega
theorem intN_ints (c : List Nat) : intsD (intN c) = some (c.map fun i : Nat => (i : Int)) := by rw [intN_eq]; exact intsD_map _
theorem up_one {L M : List Int} (hL : L.Pairwise (· < ·)) (hM : M.Pairwise (· < ·)) (h : ∀ k, k ∈ L ↔ k ∈ M) : L = M := by
  have nd : ∀ {l : List Int}, l.Pairwise (· < ·) → l.Nodup := fun h => h.imp fun hab e => by omega
  have p : L.Perm M := by
    rw [List.perm_iff_count]
    intro a
    rw [(nd hL).count, (nd hM).count]
    by_cases ha : a ∈ L
    · rw [if_pos ha, if_pos ((h a).mp ha)]
    · rw [if_neg ha, if_neg fun z => ha ((h a).mpr z)]
  exact sorted_one p (hL.imp fun hab => by omega) (hM.imp fun hab => by omega)
theorem srt_rev {ns : List Int} (h : ns.Pairwise fun a b => b ≤ a) : (srtI ns).reverse = ns := by
  have e : ns.reverse = srtI ns := sorted_one ((List.reverse_perm ns).trans (srtI_perm ns).symm) (by rw [List.pairwise_reverse]; exact h) (srtI_sorted ns)
  rw [← e, List.reverse_reverse]
theorem any_intN (i : Nat) : ∀ c : List Nat, (c.any ((fun z => PyData.eqv z (.int (i : Nat))) ∘ fun j : Nat => PyData.int (j : Int))) = decide (i ∈ c)
  | [] => rfl
  | a :: c => by
    rw [List.any_cons, any_intN i c]
    show (((a : Nat) : Int) == ((i : Nat) : Int) || decide (i ∈ c)) = _
    by_cases h : a = i
    · subst h; simp
    · have e1 : (((a : Nat) : Int) == ((i : Nat) : Int)) = false := by
        rw [beq_eq_false_iff_ne]; omega
      rw [e1, Bool.false_or]
      have e2 : (i ∈ a :: c) ↔ i ∈ c := by
        rw [List.mem_cons]
        constructor
        · rintro (h2 | h2)
          · exact absurd h2.symm h
          · exact h2
        · exact .inr
      exact decide_eq_decide.mpr e2.symm
theorem flL_intN : ∀ c : List Nat, flL (intN c) = some (c.map fun j : Nat => PyData.int (j : Int))
  | [] => rfl
  | a :: c => by
    have e : intN (a :: c) = D.int (a : Nat) :: intN c := rfl
    rw [e]
    simp only [flL, fl, flL_intN c]
    rfl
theorem in_intN {i : Nat} {c : List Nat} {Q : Bool → Prop} {E : Xn → Prop} (q : Q (decide (i ∈ c))) : inM (.int (i : Nat)) (intN c) Q E := by
  unfold inM
  simp only [fl, flL_intN]
  rw [List.any_map, any_intN]; exact q
theorem covs_filter (cov : List (List Nat × Int)) (p : List Nat × Int → Bool) (pd : D → Bool) (f : List Nat × Int → D) (fd : D → D) (h1 : ∀ c ∈ cov, pd (covD c) = p c) (h2 : ∀ c ∈ cov, fd (covD c) = f c) :
    ((cov.map covD).filter pd).map fd = (cov.filter p).map f := by
  induction cov with
  | nil => rfl
  | cons c cov ih =>
    have ih := ih (fun c hc => h1 c (List.mem_cons_of_mem _ hc)) fun c hc => h2 c (List.mem_cons_of_mem _ hc)
    rw [List.map_cons, List.filter_cons, List.filter_cons, h1 c List.mem_cons_self]
    split
    · rw [List.map_cons, List.map_cons, ih, h2 c List.mem_cons_self]
    · exact ih
def covI : D → List Nat × Int
  | .tup [.tup c, .int n] => (c.map fun d => match d with | .int i => i.toNat | _ => 0, n)
  | _ => ([], 0)
theorem covI_is (c : List Nat × Int) : covI (covD c) = c := by
  obtain ⟨c, n⟩ := c
  show ((intN c).map _, n) = (c, n)
  congr 1
  unfold intN
  rw [List.map_map]
  conv => rhs; rw [← List.map_id c]
  refine List.map_congr_left fun i _ => ?_
  show ((i : Nat) : Int).toNat = i
  omega
theorem spL_at (l : List It2) {i : Nat} (h : i < l.length) : (spL l)[i]? = some ((T l).getD i 0 - wtI l i, (T l).getD i 0) := by
  unfold spL
  rw [List.getElem?_zipWith, List.getElem?_eq_getElem h, List.getElem?_eq_getElem (by rw [T_len]; exact h)]
  unfold wtI
  rw [List.getD_eq_getElem?_getD, List.getD_eq_getElem?_getD, List.getElem?_eq_getElem h, List.getElem?_eq_getElem (by rw [T_len]; exact h)]
  rfl
theorem spL_val (l : List It2) {i : Nat} (h : i < l.length) : valI (spL l) i = (T l).getD i 0 - wtI l i ∧ wtI (spL l) i = (T l).getD i 0 := by
  have e := spL_at l h
  unfold valI
  conv => rhs; unfold wtI
  rw [List.getD_eq_getElem?_getD, e]
  exact ⟨rfl, rfl⟩
theorem T_at (l : List It2) {i : Nat} (h : i < l.length) : (T l).getD i 0 = wtI l i + maxZ (((List.range i).filter fun o => decide (valI l o < valI l i)).map fun o => (T l).getD o 0) := tops_at l h
theorem T_lo {l : List It2} {i : Nat} (h : i < l.length) : 0 ≤ (T l).getD i 0 - wtI l i := by
  rw [T_at l h]
  have := maxZ_nn (((List.range i).filter fun o => decide (valI l o < valI l i)).map fun o => (T l).getD o 0)
  omega
theorem T_step {l : List It2} {i j : Nat} (h : j < l.length) (hij : i < j) (hv : valI l i < valI l j) : (T l).getD i 0 ≤ (T l).getD j 0 - wtI l j := by
  rw [T_at l h]
  have : (T l).getD i 0 ∈ ((List.range j).filter fun o => decide (valI l o < valI l j)).map fun o => (T l).getD o 0 :=
    List.mem_map.mpr ⟨i, List.mem_filter.mpr ⟨List.mem_range.mpr hij, decide_eq_true hv⟩, rfl⟩
  have := maxZ_ge this
  omega
theorem wt_pos {l : List It2} (h : Pos l) {i : Nat} (hi : i < l.length) : 1 ≤ wtI l i := by
  unfold wtI
  rw [List.getD_eq_getElem?_getD, List.getElem?_eq_getElem hi]
  exact h _ (List.getElem_mem _)
theorem mem_spL (l : List It2) (p : It2) : p ∈ spL l ↔ ∃ i, i < l.length ∧ p = ((T l).getD i 0 - wtI l i, (T l).getD i 0) := by
  constructor
  · intro h
    obtain ⟨i, hi⟩ := List.getElem?_of_mem h
    have hl := lt_of_at hi
    rw [spL_len] at hl
    rw [spL_at l hl] at hi
    exact ⟨i, hl, (Option.some.inj hi).symm⟩
  · rintro ⟨i, hi, rfl⟩
    exact List.mem_of_getElem? (spL_at l hi)
theorem mem_lv (l : List It2) (z : Int) : z ∈ lvL l ↔ ∃ i, i < l.length ∧ (z = (T l).getD i 0 - wtI l i ∨ z = (T l).getD i 0) := by
  unfold lvL
  rw [(srtI_perm _).mem_iff, (lvK_spec l).2]
  constructor
  · rintro ⟨p, hp, hz⟩
    obtain ⟨i, hi, rfl⟩ := (mem_spL l p).mp hp
    exact ⟨i, hi, hz⟩
  · rintro ⟨i, hi, hz⟩
    exact ⟨_, (mem_spL l _).mpr ⟨i, hi, rfl⟩, hz⟩
theorem lv_up (l : List It2) : (lvL l).Pairwise (· < ·) := by
  have h1 := srtI_sorted (lvK l)
  have h2 : (srtI (lvK l)).Nodup := (srtI_perm _).nodup_iff.mpr (lvK_spec l).1
  unfold List.Nodup at h2
  exact (h1.and h2).imp fun ⟨a, b⟩ => by omega
/-! sums over what lies between neighbours -/
theorem tele1 {hi : Int} : ∀ (L : List Int) (x : Int), (x :: L).Pairwise (· < ·) → hi ∈ x :: L → (List.zipWith (fun a b : Int => if b ≤ hi then b - a else 0) (x :: L) L).sum = hi - x
  | [], x, _, h => by
    have : hi = x := by simpa using h
    subst this
    simp
  | y :: r, x, p, h => by
    rw [List.zipWith_cons_cons, List.sum_cons]
    rw [List.pairwise_cons] at p
    have hxy := p.1 y List.mem_cons_self
    rcases List.mem_cons.mp h with rfl | h
    · have z : ∀ (L : List Int) (x : Int), (∀ b ∈ L, hi < b) → (List.zipWith (fun a b : Int => if b ≤ hi then b - a else 0) (x :: L) L).sum = 0 := by
        intro L
        induction L with
        | nil => intro x _; rfl
        | cons b L ih =>
          intro x hb
          rw [List.zipWith_cons_cons, List.sum_cons, ih b fun c hc => hb c (List.mem_cons_of_mem _ hc), if_neg (by have := hb b List.mem_cons_self; omega)]
          rfl
      rw [if_neg (by omega), z r y fun b hb => p.1 b (List.mem_cons_of_mem _ hb)]
      omega
    · have hy : y ≤ hi := by
        rcases List.mem_cons.mp h with e | h
        · omega
        · have := (List.pairwise_cons.mp p.2).1 hi h; omega
      rw [if_pos hy, tele1 r y p.2 h]
      omega
theorem tele2 {lo hi : Int} (hle : lo ≤ hi) : ∀ L : List Int, L.Pairwise (· < ·) → lo ∈ L → hi ∈ L → (List.zipWith (fun a b : Int => if lo ≤ a ∧ b ≤ hi then b - a else 0) L (L.drop 1)).sum = hi - lo
  | [], _, h, _ => by cases h
  | x :: r, p, h1, h2 => by
    show (List.zipWith (fun a b : Int => if lo ≤ a ∧ b ≤ hi then b - a else 0) (x :: r) r).sum = hi - lo
    have p' := List.pairwise_cons.mp p
    rcases List.mem_cons.mp h1 with rfl | h1
    · rw [← tele1 r lo p h2]
      have z : ∀ (L : List Int) (x : Int), (∀ b ∈ x :: L, lo ≤ b) → List.zipWith (fun a b : Int => if lo ≤ a ∧ b ≤ hi then b - a else 0) (x :: L) L = List.zipWith (fun a b : Int => if b ≤ hi then b - a else 0) (x :: L) L := by
        intro L
        induction L with
        | nil => intro x _; rfl
        | cons b L ih =>
          intro x hb
          rw [List.zipWith_cons_cons, List.zipWith_cons_cons, ih b fun c hc => hb c (List.mem_cons_of_mem _ hc)]
          have hx := hb x List.mem_cons_self
          congr 1
          simp only [hx, true_and]
      rw [z r lo fun b hb => ?_]
      rcases List.mem_cons.mp hb with rfl | hb
      · exact Int.le_refl _
      · have := p'.1 b hb; omega
    · have hx := p'.1 lo h1
      have h2 : hi ∈ r := by
        rcases List.mem_cons.mp h2 with e | h
        · omega
        · exact h
      cases r with
      | nil => cases h1
      | cons y r =>
        rw [List.zipWith_cons_cons, List.sum_cons, if_neg (by omega), Int.zero_add]
        exact tele2 hle (y :: r) p'.2 h1 h2
theorem mem_fall {sp : List It2} {a b : Int} {i : Nat} : i ∈ fallL sp a b ↔ i < sp.length ∧ valI sp i ≤ a ∧ b ≤ wtI sp i := by
  unfold fallL
  rw [List.mem_filter, List.mem_range, Bool.and_eq_true, decide_eq_true_eq, decide_eq_true_eq]
theorem cov_at {l : List It2} {c : List Nat × Int} (h : c ∈ covL l) : ∃ a b, c = (fallL (spL l) a b, b - a) ∧ a ∈ lvL l ∧ b ∈ lvL l ∧ a < b := by
  obtain ⟨k, hk⟩ := List.getElem?_of_mem h
  unfold covL at hk
  rw [List.getElem?_zipWith] at hk
  cases ha : (lvL l)[k]? with
  | none => rw [ha] at hk; simp at hk
  | some a =>
    cases hb : ((lvL l).drop 1)[k]? with
    | none => rw [ha, hb] at hk; simp at hk
    | some b =>
      rw [ha, hb] at hk
      have e := Option.some.inj hk
      rw [List.getElem?_drop] at hb
      refine ⟨a, b, e.symm, List.mem_of_getElem? ha, List.mem_of_getElem? hb, ?_⟩
      have h1 := lt_of_at ha
      have h2 := lt_of_at hb
      rw [List.getElem?_eq_getElem h1] at ha
      rw [List.getElem?_eq_getElem h2] at hb
      cases ha; cases hb
      exact List.pairwise_iff_getElem.mp (lv_up l) k (1 + k) h1 h2 (by omega)
theorem cov_fall {l : List It2} (pos : Pos l) {c : List Nat × Int} (h : c ∈ covL l) : FallOk l c := by
  obtain ⟨a, b, rfl, _, _, hab⟩ := cov_at h
  have up : (fallL (spL l) a b).Pairwise (· < ·) := (List.pairwise_lt_range (n := (spL l).length)).filter _
  refine ⟨up, fun x hx => ?_, by show 1 ≤ b - a; omega, ?_⟩
  · have := (mem_fall.mp hx).1
    rwa [spL_len] at this
  · refine up.imp_of_mem fun {i j} hi hj hij => ?_
    obtain ⟨i0, i1, i2⟩ := mem_fall.mp hi
    obtain ⟨j0, j1, j2⟩ := mem_fall.mp hj
    rw [spL_len] at i0 j0
    rw [(spL_val l i0).2] at i2
    rw [(spL_val l j0).1] at j1
    by_cases hv : valI l i < valI l j
    · have := T_step j0 hij hv
      omega
    · omega
theorem filt_sum (i : Nat) (F : Int → Int → List Nat) : ∀ A B : List Int, (((List.zipWith (fun a b : Int => (F a b, b - a)) A B).filter fun c => decide (i ∈ c.1)).map fun c => c.2).sum = (List.zipWith (fun a b : Int => if i ∈ F a b then b - a else 0) A B).sum
  | [], _ => rfl
  | _ :: _, [] => rfl
  | a :: A, b :: B => by
    rw [List.zipWith_cons_cons, List.zipWith_cons_cons, List.filter_cons, List.sum_cons, ← filt_sum i F A B]
    by_cases h : i ∈ F a b
    · rw [if_pos (by exact decide_eq_true h), if_pos h]; rfl
    · rw [if_neg (by simpa using h), if_neg h, Int.zero_add]
theorem cov_covers {l : List It2} (pos : Pos l) {i : Nat} (hi : i < l.length) : wtI l i ≤ (((covL l).filter fun c => decide (i ∈ c.1)).map fun c => c.2).sum := by
  unfold covL
  rw [filt_sum]
  have e : (fun a b : Int => if i ∈ fallL (spL l) a b then b - a else 0) = fun a b : Int => if (T l).getD i 0 - wtI l i ≤ a ∧ b ≤ (T l).getD i 0 then b - a else 0 := by
    funext a b
    have : i ∈ fallL (spL l) a b ↔ (T l).getD i 0 - wtI l i ≤ a ∧ b ≤ (T l).getD i 0 := by
      rw [mem_fall, (spL_val l hi).1, (spL_val l hi).2, spL_len]
      exact ⟨fun h => h.2, fun h => ⟨hi, h⟩⟩
    simp only [this]
  rw [e]
  have hw := wt_pos pos hi
  rw [tele2 (by omega) (lvL l) (lv_up l) ((mem_lv l _).mpr ⟨i, hi, .inl rfl⟩) ((mem_lv l _).mpr ⟨i, hi, .inr rfl⟩)]
  omega
theorem T_mem {l : List It2} {i : Nat} (h : i < l.length) : (T l).getD i 0 ∈ T l := by
  rw [List.getD_eq_getElem?_getD, List.getElem?_eq_getElem (by rw [T_len]; exact h)]
  exact List.getElem_mem _
theorem cov_sum {l : List It2} (pos : Pos l) : ((covL l).map fun c => c.2).sum = maxZ (T l) := by
  have e0 : (covL l).map (fun c => c.2) = List.zipWith (fun a b : Int => b - a) (lvL l) ((lvL l).drop 1) := by
    unfold covL
    rw [List.map_zipWith]
  rw [e0]
  by_cases h0 : l.length = 0
  · have : l = [] := List.length_eq_zero_iff.mp h0
    subst this
    rfl
  · have hl : 0 < l.length := by omega
    have top : ∀ z ∈ lvL l, 0 ≤ z ∧ z ≤ maxZ (T l) := fun z hz => by
      obtain ⟨i, hi, hz⟩ := (mem_lv l z).mp hz
      have h1 := T_lo hi
      have h2 := wt_pos pos hi
      have h3 := maxZ_ge (T_mem hi)
      rcases hz with rfl | rfl <;> omega
    have z0 : (0 : Int) ∈ lvL l := by
      refine (mem_lv l 0).mpr ⟨0, hl, .inl ?_⟩
      rw [T_at l hl]
      show (0 : Int) = wtI l 0 + 0 - wtI l 0
      omega
    have zm : maxZ (T l) ∈ lvL l := by
      rcases maxZ_mem (ns := T l) with h | h
      · have h1 := T_lo hl
        have h2 := wt_pos pos hl
        have h3 := maxZ_ge (T_mem hl)
        omega
      · obtain ⟨i, hi⟩ := List.getElem?_of_mem h
        have hil := lt_of_at hi
        rw [T_len] at hil
        refine (mem_lv l _).mpr ⟨i, hil, .inr ?_⟩
        rw [List.getD_eq_getElem?_getD, hi]
        rfl
    cases hL : lvL l with
    | nil => rw [hL] at z0; cases z0
    | cons x r =>
      have up := lv_up l
      rw [hL] at up zm z0 top
      show (List.zipWith (fun a b : Int => b - a) (x :: r) r).sum = _
      have hx : x = 0 := by
        have := (top x List.mem_cons_self).1
        rcases List.mem_cons.mp z0 with e | h
        · exact e.symm
        · have := (List.pairwise_cons.mp up).1 0 h; omega
      have t1 := tele1 r x up zm
      have z : ∀ (L : List Int) (x : Int), (∀ b ∈ L, b ≤ maxZ (T l)) → List.zipWith (fun a b : Int => b - a) (x :: L) L = List.zipWith (fun a b : Int => if b ≤ maxZ (T l) then b - a else 0) (x :: L) L := by
        intro L
        induction L with
        | nil => intro x _; rfl
        | cons b L ih =>
          intro x hb
          rw [List.zipWith_cons_cons, List.zipWith_cons_cons, ih b fun c hc => hb c (List.mem_cons_of_mem _ hc), if_pos (hb b List.mem_cons_self)]
      rw [z r x fun b hb => (top b (List.mem_cons_of_mem _ hb)).2, t1]
      omega
theorem up_lt {l : List It2} {c : List Nat} (u : Up l c) {x y : Nat} (hx : x ∈ c) (hy : y ∈ c) (h : x < y) : valI l x < valI l y := by
  obtain ⟨u1, u2⟩ := u
  induction c with
  | nil => cases hx
  | cons a c ih =>
    rw [List.pairwise_cons] at u1 u2
    rcases List.mem_cons.mp hx with rfl | hx
    · rcases List.mem_cons.mp hy with rfl | hy
      · omega
      · exact u2.1 y hy
    · rcases List.mem_cons.mp hy with e | hy
      · have := u1.1 x hx; omega
      · exact ih hx hy u1.2 u2.2
theorem G_up (l : List It2) : Up l (G none 0 l) ∧ ∀ x ∈ G none 0 l, x < l.length := by
  have h := of_feas (l := l) (G_feas l none 0) rfl
  exact ⟨h.1, fun x hx => (h.2.1 x hx).2⟩
theorem one_each {l : List It2} {c : List Nat × Int} (ok : FallOk l c) : (c.1.filter fun i => decide (i ∈ G none 0 l)).length ≤ 1 := by
  have p := (ok.up.and ok.down).filter fun i => decide (i ∈ G none 0 l)
  have m : ∀ x ∈ c.1.filter (fun i => decide (i ∈ G none 0 l)), x ∈ G none 0 l := fun x hx => of_decide_eq_true (List.mem_filter.mp hx).2
  cases h : c.1.filter fun i => decide (i ∈ G none 0 l) with
  | nil => exact Nat.zero_le _
  | cons x r =>
    cases r with
    | nil => exact Nat.le_refl _
    | cons y r =>
      rw [h] at p m
      have q := (List.pairwise_cons.mp p).1 y List.mem_cons_self
      have := up_lt (G_up l).1 (m x List.mem_cons_self) (m y (List.mem_cons_of_mem _ List.mem_cons_self)) q.1
      omega
theorem T_bound {l : List It2} (hw : ∀ p ∈ l, p.2 ≤ 1000000000) : ∀ n i, i < n → i < l.length → (T l).getD i 0 ≤ ((i : Nat) + 1 : Int) * 1000000000
  | 0, i, h, _ => absurd h (Nat.not_lt_zero _)
  | n + 1, i, h, hi => by
    rw [T_at l hi]
    have h1 : wtI l i ≤ 1000000000 := by
      unfold wtI
      rw [List.getD_eq_getElem?_getD, List.getElem?_eq_getElem hi]
      exact hw _ (List.getElem_mem _)
    have h2 : maxZ (((List.range i).filter fun o => decide (valI l o < valI l i)).map fun o => (T l).getD o 0) ≤ (i : Int) * 1000000000 := by
      rcases maxZ_mem (ns := ((List.range i).filter fun o => decide (valI l o < valI l i)).map fun o => (T l).getD o 0) with e | e
      · rw [e]; omega
      · obtain ⟨o, ho, e⟩ := List.mem_map.mp e
        rw [← e]
        have ho := List.mem_range.mp (List.mem_filter.mp ho).1
        have := T_bound hw n o (by omega) (by omega)
        omega
    omega
def covP (c : List Nat × Int) : PyData := .tuple [.tuple (c.1.map fun i : Nat => .int (i : Int)), .int c.2]
theorem cov_py (c : List Nat × Int) : (covD c).py = some (covP c) := by
  have : pyL (intN c.1) = some (c.1.map fun i : Nat => PyData.int (i : Int)) := pyL_map (f := fun i : Nat => D.int (i : Int)) (p := fun i : Nat => PyData.int (i : Int)) (fun _ => rfl) c.1
  unfold covD
  simp only [D.py, pyL, this, Option.map_some]
  rfl
theorem show_int {i : Int} (h : i.natAbs < 10 ^ 19) : (PyData.shown (.int i)).length ≤ 21 := by
  have e := PySem.int_text_length_le10 (a := i) (k := 20) (by decide) (Nat.lt_trans h (by decide))
  show (Str.ofString (toString i)).length ≤ 21
  rw [PySem.ofString_length]
  exact e
theorem log_small {i : Int} (h : i.natAbs < 10 ^ 19) : i.natAbs.log2 < 1920 := by
  by_cases h0 : i.natAbs = 0
  · rw [h0]; decide
  · rw [Nat.log2_lt h0]
    exact Nat.lt_trans h (Nat.lt_of_lt_of_le (by decide : 10 ^ 19 < 2 ^ 64) (Nat.pow_le_pow_right (by decide) (by decide)))
theorem ints_small (c : List Nat) (h : ∀ x ∈ c, x < 1000) : PyData.showableAll (c.map fun i : Nat => .int (i : Int)) = true ∧ PyData.leavesShortAll 21 (c.map fun i : Nat => .int (i : Int)) = true ∧ PyData.bulkAll (c.map fun i : Nat => .int (i : Int)) = c.length := by
  induction c with
  | nil => exact ⟨rfl, rfl, rfl⟩
  | cons a c ih =>
    obtain ⟨h1, h2, h3⟩ := ih fun x hx => h x (List.mem_cons_of_mem _ hx)
    have ha := h a List.mem_cons_self
    have hs : ((a : Nat) : Int).natAbs < 10 ^ 19 := by
      rw [Int.natAbs_natCast]
      exact Nat.lt_trans ha (by decide)
    refine ⟨?_, ?_, ?_⟩
    · rw [List.map_cons, PyData.showableAll, h1, Bool.and_true]
      simp only [PyData.showable, decide_eq_true_eq]
      exact log_small hs
    · rw [List.map_cons, PyData.leavesShortAll, h2, Bool.and_true]
      simp only [PyData.leavesShort, decide_eq_true_eq]
      exact show_int hs
    · rw [List.map_cons, PyData.bulkAll, h3, List.length_cons]
      simp only [PyData.bulk]
      omega
structure CovS (cov : List (List Nat × Int)) : Prop where
  len : cov.length ≤ 1000
  ix : ∀ c ∈ cov, c.1.length ≤ 250 ∧ (∀ x ∈ c.1, x < 1000) ∧ c.2.natAbs < 10 ^ 19
theorem repr_cov {cov : List (List Nat × Int)} (h : CovS cov) {Q : D × Bool → Prop} {E : Xn → Prop} (q : Q (.str (PyData.shown (.list (cov.map covP))), false)) : reprM [.lst (cov.map covD)] Q E := by
  have epy : (D.lst (cov.map covD)).py = some (.list (cov.map covP)) := by
    show (pyL (cov.map covD)).map PyData.list = _
    rw [pyL_map (f := covD) (p := covP) cov_py]
    rfl
  show match (D.lst (cov.map covD)).py with | some p => p.canLay0 = true ∧ p.showable = true ∧ p.shown.length ≤ sizeLine ∧ p.depth ≤ 100 ∧ Q (.str p.shown, false) | none => False
  rw [epy]
  have key : ∀ cov : List (List Nat × Int), (∀ c ∈ cov, c.1.length ≤ 250 ∧ (∀ x ∈ c.1, x < 1000) ∧ c.2.natAbs < 10 ^ 19) →
      PyData.canLayAll0 (cov.map covP) = true ∧ PyData.showableAll (cov.map covP) = true ∧ PyData.leavesShortAll 21 (cov.map covP) = true ∧ PyData.bulkAll (cov.map covP) ≤ 253 * cov.length ∧ PyData.depthAll (cov.map covP) ≤ 4 := by
    intro cov
    induction cov with
    | nil => intro _; exact ⟨rfl, rfl, rfl, Nat.zero_le _, by simp [PyData.depthAll]⟩
    | cons c cov ih =>
      intro hc
      obtain ⟨i1, i2, i3, i4, i5⟩ := ih fun c hc' => hc c (List.mem_cons_of_mem _ hc')
      obtain ⟨c1, c2, c3⟩ := hc c List.mem_cons_self
      obtain ⟨s1, s2, s3⟩ := ints_small c.1 c2
      have lay : PyData.canLayAll0 (c.1.map fun i : Nat => PyData.int (i : Int)) = true := by
        have := lay_ints (c.1.map fun i : Nat => (i : Int))
        rw [List.map_map] at this
        exact this
      have dep : PyData.depthAll (c.1.map fun i : Nat => PyData.int (i : Int)) ≤ 1 := by
        have := depth_ints (c.1.map fun i : Nat => (i : Int))
        rw [List.map_map] at this
        exact this
      refine ⟨?_, ?_, ?_, ?_, ?_⟩
      · rw [List.map_cons, PyData.canLayAll0, i1]
        unfold covP
        simp only [PyData.canLay0, PyData.canLayAll0, lay, Bool.and_true]
      · rw [List.map_cons, PyData.showableAll, i2]
        unfold covP
        simp only [PyData.showable, PyData.showableAll, s1, Bool.and_true, Bool.true_and, decide_eq_true_eq]
        exact log_small c3
      · rw [List.map_cons, PyData.leavesShortAll, i3]
        unfold covP
        simp only [PyData.leavesShort, PyData.leavesShortAll, s2, Bool.and_true, Bool.true_and, decide_eq_true_eq]
        exact show_int c3
      · rw [List.map_cons, PyData.bulkAll, List.length_cons]
        unfold covP
        simp only [PyData.bulk, PyData.bulkAll, s3]
        unfold covP at i4
        omega
      · rw [List.map_cons, PyData.depthAll]
        refine Nat.max_le.mpr ⟨?_, i5⟩
        unfold covP
        simp only [PyData.depth, PyData.depthAll]
        omega
  obtain ⟨k1, k2, k3, k4, k5⟩ := key cov h.ix
  have hlen := PyData.shown_le_bulk 21 (by decide) (.list (cov.map covP)) (by rw [PyData.leavesShort]; exact k3)
  rw [PyData.bulk] at hlen
  have h1 := h.len
  refine ⟨by rw [PyData.canLay0]; exact k1, by rw [PyData.showable]; exact k2, by rw [sizeLine_eq]; omega, ?_, q⟩
  rw [PyData.depth]
  omega
theorem lv_len (l : List It2) : (lvL l).length ≤ 2 * l.length := by
  have hm : ∀ (more acc : List (Key × D)), (mergeG acc more).length ≤ acc.length + more.length := by
    intro more
    induction more with
    | nil => intro acc; exact Nat.le_refl _
    | cons x more ih =>
      intro acc
      refine Nat.le_trans (ih (putG acc x.1 x.2)) ?_
      have : (putG acc x.1 x.2).length ≤ acc.length + 1 := by
        unfold putG
        split
        · rw [List.length_map]; omega
        · rw [List.length_append, List.length_singleton]; exact Nat.le_refl _
      rw [List.length_cons]; omega
  have hf : ∀ sp : List It2, (sp.flatMap fun p => [((Sum.inl p.1 : Key), D.bl true), (Sum.inl p.2, D.bl true)]).length = 2 * sp.length := by
    intro sp
    induction sp with
    | nil => rfl
    | cons p sp ih => rw [List.flatMap_cons, List.length_append, ih]; simp only [List.length_cons, List.length_nil]; omega
  unfold lvL
  rw [(srtI_perm _).length_eq]
  unfold lvK
  refine Nat.le_trans (List.length_filterMap_le _ _) (Nat.le_trans (hm _ []) ?_)
  rw [hf, spL_len]
  exact Nat.le_of_eq (Nat.zero_add _)
theorem cov_small {l : List It2} (ok : Ok l) (hw : ∀ p ∈ l, p.2 ≤ 1000000000) : CovS (covL l) := by
  have hl := ok.len
  refine ⟨?_, fun c hc => ?_⟩
  · have := lv_len l
    unfold covL
    rw [List.length_zipWith]
    omega
  · have f := cov_fall ok.pos hc
    obtain ⟨a, b, rfl, ha, hb, hab⟩ := cov_at hc
    have lev : ∀ z ∈ lvL l, 0 ≤ z ∧ z ≤ 251 * 1000000000 := fun z hz => by
      obtain ⟨i, hi, hz⟩ := (mem_lv l z).mp hz
      have h1 := T_lo hi
      have h2 := wt_pos ok.pos hi
      have h3 := T_bound hw (i + 1) i (Nat.lt_succ_self i) hi
      rcases hz with rfl | rfl <;> omega
    have la := lev a ha
    have lb := lev b hb
    refine ⟨Nat.le_trans (up_len l.length _ f.up f.lt) hl, fun x hx => by have := f.lt x hx; omega, ?_⟩
    show (b - a).natAbs < 10 ^ 19
    omega

end DL.K16

namespace DL.K16
open PySem L2 DL.K13
local macro_rules | `(tactic| walk_at "dl") => `(tactic| simp only [ret, fail, bnd, frz, cC, cVar, bVar, cBin, cNeg, cNot, cAnd, cOr, cIf, vT, tCm, tCh, tTru, tNo, tAn, tOr', cNil, cCons, cTup, cLst, cIx, oNo, oIs, cSl, cCall, callD, cCallK, cB, sNil, sSeq, sDrop, sSet, sAsg, sPar, sRet, sRetN, sIf, sBrk, sCnt, sNo, sFor, sFrz, sApp, sPut, sSetU, uOf, uPop, uPopAt, isOwL, sAdopt,
  gNm, gTp, gsCons, gsNil, tYesD, cLc, iSeq, iRng, iEn, cIsi, cLRg, cBest, cSrtSet, cRev, iZp, cCallF, cCallKF, callF, sRetO, sRetF, tLend, frzE, cDct, prM, cJoin, cel, rgsM, len_lst, len_tup, len_dct, len_str, abs_int, list_lst, list_tup, tuple_lst, tuple_tup, items_lst, items_tup, items_str, enum_lst, enum_tup,
  bin_addI, bin_subI, bin_mulI, bin_divI, bin_modI, bin_powI, bin_addS, bin_addL, bin_addT, bin_mulL, bin_mulT, bin_mulS, cmp_eq, cmp_ne, cmp_lt, cmp_le, cmp_gt, cmp_ge, cmp_is, cmp_isnt, cmp_inS, cmp_ninS, eq_int, eq_str, ix_lst, ix_tup, tru_bl, tru_lst, tru_tup, tru_int, tru_non, non_non, non_int, non_str, non_bl, non_lst, non_tup, at_zero, at_one, at_two,
  isi_non, isi_bl, isi_int, isi_str, isi_lst, isi_tup, isi_dct, sub_tab, List.any_cons, List.any_nil, Bool.or_false, Bool.or_true, Bool.true_or, Bool.false_or, Bool.not_true, Bool.not_false,
  List.getElem?_cons_zero, List.getElem?_cons_succ, List.set_cons_zero, List.set_cons_succ, Bool.false_and, Bool.true_and, Bool.and_false, Bool.and_true, Bool.false_eq_true, if_true, if_false, ite_true, ite_false, List.length_cons, List.length_nil, List.length_map, true_and, and_true, ne_eq, not_true_eq_false, not_false_eq_true, reduceCtorEq, Nat.reduceAdd, Nat.zero_add, Int.cast_ofNat_Int, beq_self_eq_true, decide_true, decide_false, *])
local macro_rules | `(tactic| walk_at "dl0") => `(tactic| simp only [ret, fail, bnd, frz, cC, cVar, bVar, cBin, cNeg, cNot, cAnd, cOr, cIf, vT, tCm, tCh, tTru, tNo, tAn, tOr', cNil, cCons, cTup, cLst, cIx, oNo, oIs, cSl, cCall, callD, cCallK, cB, sNil, sSeq, sDrop, sSet, sAsg, sPar, sRet, sRetN, sIf, sBrk, sCnt, sNo, sFor, sFrz, sApp, sPut, sSetU, uOf, uPop, uPopAt, isOwL, sAdopt,
  gNm, gTp, gsCons, gsNil, tYesD, cLc, iSeq, iRng, iEn, cIsi, cLRg, cBest, cSrtSet, cRev, iZp, cCallF, cCallKF, callF, sRetO, sRetF, tLend, frzE, cDct, prM, cJoin, cel, rgsM, len_lst, len_tup, len_dct, len_str, abs_int, list_lst, list_tup, tuple_lst, tuple_tup, items_lst, items_tup, items_str, enum_lst, enum_tup,
  bin_addI, bin_subI, bin_mulI, bin_divI, bin_modI, bin_powI, bin_addS, bin_addL, bin_addT, bin_mulL, bin_mulT, bin_mulS, cmp_eq, cmp_ne, cmp_lt, cmp_le, cmp_gt, cmp_ge, cmp_is, cmp_isnt, cmp_inS, cmp_ninS, eq_int, eq_str, ix_lst, ix_tup, tru_bl, tru_lst, tru_tup, tru_int, tru_non, non_non, non_int, non_str, non_bl, non_lst, non_tup, at_zero, at_one, at_two,
  isi_non, isi_bl, isi_int, isi_str, isi_lst, isi_tup, isi_dct, sub_tab, List.any_cons, List.any_nil, Bool.or_false, Bool.or_true, Bool.true_or, Bool.false_or, Bool.not_true, Bool.not_false,
  List.getElem?_cons_zero, List.getElem?_cons_succ, List.set_cons_zero, List.set_cons_succ, Bool.false_and, Bool.true_and, Bool.and_false, Bool.and_true, Bool.false_eq_true, if_true, if_false, ite_true, ite_false, List.length_cons, List.length_nil, List.length_map, true_and, and_true, ne_eq, not_true_eq_false, not_false_eq_true, reduceCtorEq, Nat.reduceAdd, Nat.zero_add, Int.cast_ofNat_Int, beq_self_eq_true, decide_true, decide_false])
theorem next_pair {cc : List Nat} {x : D} (h : x ∈ pairs (intN cc) ((intN cc).drop 1)) : ∃ i j : Nat, x = .tup [.int i, .int j] ∧ i ∈ cc ∧ j ∈ cc ∧ ∀ R : Nat → Nat → Prop, cc.Pairwise R → R i j := by
  obtain ⟨k, hk⟩ := List.getElem?_of_mem h
  obtain ⟨a, b, rfl, h1, h2⟩ := pairs_at hk
  rw [List.getElem?_drop] at h2
  unfold intN at h1 h2
  rw [List.getElem?_map] at h1 h2
  obtain ⟨i, ei, e1⟩ := Option.map_eq_some_iff.mp h1
  obtain ⟨j, ej, e2⟩ := Option.map_eq_some_iff.mp h2
  subst e1; subst e2
  refine ⟨i, j, rfl, List.mem_of_getElem? ei, List.mem_of_getElem? ej, fun R hR => ?_⟩
  have l1 := lt_of_at ei
  have l2 := lt_of_at ej
  rw [List.getElem?_eq_getElem l1] at ei
  rw [List.getElem?_eq_getElem l2] at ej
  cases ei; cases ej
  exact List.pairwise_iff_getElem.mp hR k (1 + k) l1 l2 (by omega)
theorem cut1 (xs : List D) : cutA xs (some 1) none = xs.drop 1 := by
  rw [show (1 : Int) = ((1 : Nat) : Int) from rfl, cut_drop]
theorem all_true (n : List D) {Q : D × Bool → Prop} {E : Xn → Prop} (q : Q (.bl true, false)) : allM [.lst (n.map fun _ => .bl true)] Q E := by
  have e : (n.map fun _ => D.bl true) = (n.map fun _ => true).map D.bl := by rw [List.map_map]; rfl
  show match blsD (n.map fun _ => D.bl true) with | some bs => Q (.bl (bs.all id), false) | none => False
  rw [e, blsD_map]
  have : ((n.map fun _ => true).all id) = true := by rw [List.all_eq_true]; intro x hx; obtain ⟨_, _, rfl⟩ := List.mem_map.mp hx; rfl
  show Q (.bl ((n.map fun _ => true).all id), false)
  rw [this]; exact q
/-- all([.. for one, other in zip(value, value[1:])]) -/
theorem nexts_ok {g : CG} {e : CB} {ρ : Env} {cc : List Nat} {R : Nat → Nat → Prop} {E : Xn → Prop} {Q : List D → Prop} (st : D → D → Env) (hR : cc.Pairwise R) (hg : ∀ a b Q, Q (st a b) → g (.tup [a, b]) ρ Q E)
    (he : ∀ i j : Nat, i ∈ cc → j ∈ cc → R i j → ∀ Q : D → Prop, Q (.bl true) → e (st (.int i) (.int j)) Q E) (q : ∀ n : List D, Q (n.map fun _ => .bl true)) : lcM g tYesD e ρ (pairs (intN cc) ((intN cc).drop 1)) Q E := by
  refine lc_fun (fun x => match x with | .tup [a, b] => st a b | _ => []) (fun _ => true) (fun _ => .bl true) (fun x hx Q q => ?_) (fun x _ Q q => q) (fun x hx _ Q q => ?_) (q _)
  · obtain ⟨i, j, rfl, _⟩ := next_pair hx
    exact hg _ _ Q q
  · obtain ⟨i, j, rfl, h1, h2, h3⟩ := next_pair hx
    exact he i j h1 h2 (h3 R hR) Q q
theorem p_are_indexes : ∀ ds QD ED, m_are_indexes ds QD ED → c_are_indexes (startE N_are_indexes ds) { nx := fun _ => QD .non, rt := fun d _ => QD d } ED := by
  intro ds QD ED h
  unfold m_are_indexes at h
  split at h
  · rename_i d c
    obtain ⟨l, cc, hd, rfl, up, hlt, hl, h⟩ := h
    show c_are_indexes [.sh d, .sh (.tup (intN cc)), .no, .no, .no] _ ED
    have hcl := Nat.le_trans (up_len l.length cc up hlt) hl
    have elen : ∀ Q : D × Bool → Prop, Q (.int l.length, false) → lenM [d] Q ED := fun Q q => by
      rcases hd with rfl | rfl
      · show Q (.int ((itsD l).length : Nat), false)
        rw [its_len]; exact q
      · show Q (.int ((itsD l).length : Nat), false)
        rw [its_len]; exact q
    unfold c_are_indexes
    walk_at "dl0"
    refine ⟨by rw [intN_len, sizeLine_eq]; omega, ?_⟩
    refine lc_map (fun _ => .bl true) (fun x hx Q q => ?_) ?_
    · unfold intN at hx
      obtain ⟨i, hi, rfl⟩ := List.mem_map.mp hx
      have h1 := hlt i hi
      have hint : ∀ Q : D → Prop, Q (.bl true) → m_is_integer [.int (i : Nat)] Q ED := fun Q q => q
      show frz _ [.sh d, .sh (.tup (intN cc)), .sh (.int (i : Nat)), .no, .no] Q ED
      walk_at "dl0"
      refine hint _ ?_
      have g0 : decide ((0 : Int) ≤ (i : Nat)) = true := decide_eq_true (by omega)
      have g1 : decide (((i : Nat) : Int) < l.length) = true := decide_eq_true (by omega)
      walk_at "dl0"
      rw [g0]
      walk_at "dl0"
      refine elen _ ?_
      walk_at "dl0"
      rw [g1]
      exact q
    · refine all_true _ ?_
      walk_at "dl0"
      show (pairs (intN cc) (cutA (intN cc) (some 1) none)).length ≤ sizeLine ∧ lcM _ _ _ _ (pairs (intN cc) (cutA (intN cc) (some 1) none)) _ _
      rw [cut1]
      refine ⟨by rw [pairs_len, intN_len, sizeLine_eq]; omega, ?_⟩
      refine nexts_ok (fun a b => [.sh d, .sh (.tup (intN cc)), .no, .sh a, .sh b]) up (fun a b Q q => ⟨rfl, q⟩) (fun i j _ _ hij Q q => ?_) fun n => all_true _ h
      show Q (.bl (decide (((i : Nat) : Int) < ((j : Nat) : Int))))
      rw [decide_eq_true (by omega)]
      exact q
  · exact h.elim

end DL.K16

namespace DL.K16
open PySem L2 DL.K13
local macro_rules | `(tactic| walk_at "dl") => `(tactic| simp only [ret, fail, bnd, frz, cC, cVar, bVar, cBin, cNeg, cNot, cAnd, cOr, cIf, vT, tCm, tCh, tTru, tNo, tAn, tOr', cNil, cCons, cTup, cLst, cIx, oNo, oIs, cSl, cCall, callD, cCallK, cB, sNil, sSeq, sDrop, sSet, sAsg, sPar, sRet, sRetN, sIf, sBrk, sCnt, sNo, sFor, sFrz, sApp, sPut, sSetU, uOf, uPop, uPopAt, isOwL, sAdopt,
  gNm, gTp, gsCons, gsNil, tYesD, cLc, iSeq, iRng, iEn, cIsi, cLRg, cBest, cSrtSet, cRev, iZp, cCallF, cCallKF, callF, sRetO, sRetF, tLend, frzE, cDct, prM, cJoin, cel, rgsM, len_lst, len_tup, len_dct, len_str, abs_int, list_lst, list_tup, tuple_lst, tuple_tup, items_lst, items_tup, items_str, enum_lst, enum_tup,
  bin_addI, bin_subI, bin_mulI, bin_divI, bin_modI, bin_powI, bin_addS, bin_addL, bin_addT, bin_mulL, bin_mulT, bin_mulS, cmp_eq, cmp_ne, cmp_lt, cmp_le, cmp_gt, cmp_ge, cmp_is, cmp_isnt, cmp_inS, cmp_ninS, eq_int, eq_str, ix_lst, ix_tup, tru_bl, tru_lst, tru_tup, tru_int, tru_non, non_non, non_int, non_str, non_bl, non_lst, non_tup, at_zero, at_one, at_two,
  isi_non, isi_bl, isi_int, isi_str, isi_lst, isi_tup, isi_dct, sub_tab, List.any_cons, List.any_nil, Bool.or_false, Bool.or_true, Bool.true_or, Bool.false_or, Bool.not_true, Bool.not_false,
  List.getElem?_cons_zero, List.getElem?_cons_succ, List.set_cons_zero, List.set_cons_succ, Bool.false_and, Bool.true_and, Bool.and_false, Bool.and_true, Bool.false_eq_true, if_true, if_false, ite_true, ite_false, List.length_cons, List.length_nil, List.length_map, true_and, and_true, ne_eq, not_true_eq_false, not_false_eq_true, reduceCtorEq, Nat.reduceAdd, Nat.zero_add, Int.cast_ofNat_Int, beq_self_eq_true, decide_true, decide_false, *])
local macro_rules | `(tactic| walk_at "dl0") => `(tactic| simp only [ret, fail, bnd, frz, cC, cVar, bVar, cBin, cNeg, cNot, cAnd, cOr, cIf, vT, tCm, tCh, tTru, tNo, tAn, tOr', cNil, cCons, cTup, cLst, cIx, oNo, oIs, cSl, cCall, callD, cCallK, cB, sNil, sSeq, sDrop, sSet, sAsg, sPar, sRet, sRetN, sIf, sBrk, sCnt, sNo, sFor, sFrz, sApp, sPut, sSetU, uOf, uPop, uPopAt, isOwL, sAdopt,
  gNm, gTp, gsCons, gsNil, tYesD, cLc, iSeq, iRng, iEn, cIsi, cLRg, cBest, cSrtSet, cRev, iZp, cCallF, cCallKF, callF, sRetO, sRetF, tLend, frzE, cDct, prM, cJoin, cel, rgsM, len_lst, len_tup, len_dct, len_str, abs_int, list_lst, list_tup, tuple_lst, tuple_tup, items_lst, items_tup, items_str, enum_lst, enum_tup,
  bin_addI, bin_subI, bin_mulI, bin_divI, bin_modI, bin_powI, bin_addS, bin_addL, bin_addT, bin_mulL, bin_mulT, bin_mulS, cmp_eq, cmp_ne, cmp_lt, cmp_le, cmp_gt, cmp_ge, cmp_is, cmp_isnt, cmp_inS, cmp_ninS, eq_int, eq_str, ix_lst, ix_tup, tru_bl, tru_lst, tru_tup, tru_int, tru_non, non_non, non_int, non_str, non_bl, non_lst, non_tup, at_zero, at_one, at_two,
  isi_non, isi_bl, isi_int, isi_str, isi_lst, isi_tup, isi_dct, sub_tab, List.any_cons, List.any_nil, Bool.or_false, Bool.or_true, Bool.true_or, Bool.false_or, Bool.not_true, Bool.not_false,
  List.getElem?_cons_zero, List.getElem?_cons_succ, List.set_cons_zero, List.set_cons_succ, Bool.false_and, Bool.true_and, Bool.and_false, Bool.and_true, Bool.false_eq_true, if_true, if_false, ite_true, ite_false, List.length_cons, List.length_nil, List.length_map, true_and, and_true, ne_eq, not_true_eq_false, not_false_eq_true, reduceCtorEq, Nat.reduceAdd, Nat.zero_add, Int.cast_ofNat_Int, beq_self_eq_true, decide_true, decide_false])
theorem p_is_choice : ∀ ds QD ED, m_is_choice ds QD ED → c_is_choice (startE N_is_choice ds) { nx := fun _ => QD .non, rt := fun d _ => QD d } ED := by
  intro ds QD ED h
  unfold m_is_choice at h
  split at h
  · rename_i d c
    obtain ⟨l, cc, hd, ok, rfl, up, hlt, h⟩ := h
    show c_is_choice [.sh d, .sh (.tup (intN cc)), .no, .no] _ ED
    have hcl := Nat.le_trans (up_len l.length cc up.1 hlt) ok.len
    have e1 : ∀ Q : D → Prop, Q .non → m_need_items [d] Q ED := fun Q q => ⟨l, hd, ok, q⟩
    have e2 : ∀ Q : D → Prop, Q (.bl true) → m_are_indexes [d, .tup (intN cc)] Q ED := fun Q q => ⟨l, cc, hd, rfl, up.1, hlt, ok.len, q⟩
    unfold c_is_choice
    walk_at "dl0"
    refine e1 _ ?_
    refine e2 _ ?_
    walk_at "dl0"
    show (pairs (intN cc) (cutA (intN cc) (some 1) none)).length ≤ sizeLine ∧ lcM _ _ _ _ (pairs (intN cc) (cutA (intN cc) (some 1) none)) _ _
    rw [cut1]
    refine ⟨by rw [pairs_len, intN_len, sizeLine_eq]; omega, ?_⟩
    refine nexts_ok (fun a b => [.sh d, .sh (.tup (intN cc)), .sh a, .sh b]) up.2 (fun a b Q q => ⟨rfl, q⟩) (fun i j hi hj hij Q q => ?_) fun n => all_true _ h
    refine its_ix (E := ED) hd (hlt i hi) ?_
    refine its_ix (E := ED) hd (hlt j hj) ?_
    show Q (.bl (decide (valI l i < valI l j)))
    rw [decide_eq_true hij]
    exact q
  · exact h.elim

end DL.K16

namespace DL.K16
open PySem L2 DL.K13
local macro_rules | `(tactic| walk_at "dl") => `(tactic| simp only [ret, fail, bnd, frz, cC, cVar, bVar, cBin, cNeg, cNot, cAnd, cOr, cIf, vT, tCm, tCh, tTru, tNo, tAn, tOr', cNil, cCons, cTup, cLst, cIx, oNo, oIs, cSl, cCall, callD, cCallK, cB, sNil, sSeq, sDrop, sSet, sAsg, sPar, sRet, sRetN, sIf, sBrk, sCnt, sNo, sFor, sFrz, sApp, sPut, sSetU, uOf, uPop, uPopAt, isOwL, sAdopt,
  gNm, gTp, gsCons, gsNil, tYesD, cLc, iSeq, iRng, iEn, cIsi, cLRg, cBest, cSrtSet, cRev, iZp, cCallF, cCallKF, callF, sRetO, sRetF, tLend, frzE, cDct, prM, cJoin, cel, rgsM, len_lst, len_tup, len_dct, len_str, abs_int, list_lst, list_tup, tuple_lst, tuple_tup, items_lst, items_tup, items_str, enum_lst, enum_tup,
  bin_addI, bin_subI, bin_mulI, bin_divI, bin_modI, bin_powI, bin_addS, bin_addL, bin_addT, bin_mulL, bin_mulT, bin_mulS, cmp_eq, cmp_ne, cmp_lt, cmp_le, cmp_gt, cmp_ge, cmp_is, cmp_isnt, cmp_inS, cmp_ninS, eq_int, eq_str, ix_lst, ix_tup, tru_bl, tru_lst, tru_tup, tru_int, tru_non, non_non, non_int, non_str, non_bl, non_lst, non_tup, at_zero, at_one, at_two,
  isi_non, isi_bl, isi_int, isi_str, isi_lst, isi_tup, isi_dct, sub_tab, List.any_cons, List.any_nil, Bool.or_false, Bool.or_true, Bool.true_or, Bool.false_or, Bool.not_true, Bool.not_false,
  List.getElem?_cons_zero, List.getElem?_cons_succ, List.set_cons_zero, List.set_cons_succ, Bool.false_and, Bool.true_and, Bool.and_false, Bool.and_true, Bool.false_eq_true, if_true, if_false, ite_true, ite_false, List.length_cons, List.length_nil, List.length_map, true_and, and_true, ne_eq, not_true_eq_false, not_false_eq_true, reduceCtorEq, Nat.reduceAdd, Nat.zero_add, Int.cast_ofNat_Int, beq_self_eq_true, decide_true, decide_false, *])
local macro_rules | `(tactic| walk_at "dl0") => `(tactic| simp only [ret, fail, bnd, frz, cC, cVar, bVar, cBin, cNeg, cNot, cAnd, cOr, cIf, vT, tCm, tCh, tTru, tNo, tAn, tOr', cNil, cCons, cTup, cLst, cIx, oNo, oIs, cSl, cCall, callD, cCallK, cB, sNil, sSeq, sDrop, sSet, sAsg, sPar, sRet, sRetN, sIf, sBrk, sCnt, sNo, sFor, sFrz, sApp, sPut, sSetU, uOf, uPop, uPopAt, isOwL, sAdopt,
  gNm, gTp, gsCons, gsNil, tYesD, cLc, iSeq, iRng, iEn, cIsi, cLRg, cBest, cSrtSet, cRev, iZp, cCallF, cCallKF, callF, sRetO, sRetF, tLend, frzE, cDct, prM, cJoin, cel, rgsM, len_lst, len_tup, len_dct, len_str, abs_int, list_lst, list_tup, tuple_lst, tuple_tup, items_lst, items_tup, items_str, enum_lst, enum_tup,
  bin_addI, bin_subI, bin_mulI, bin_divI, bin_modI, bin_powI, bin_addS, bin_addL, bin_addT, bin_mulL, bin_mulT, bin_mulS, cmp_eq, cmp_ne, cmp_lt, cmp_le, cmp_gt, cmp_ge, cmp_is, cmp_isnt, cmp_inS, cmp_ninS, eq_int, eq_str, ix_lst, ix_tup, tru_bl, tru_lst, tru_tup, tru_int, tru_non, non_non, non_int, non_str, non_bl, non_lst, non_tup, at_zero, at_one, at_two,
  isi_non, isi_bl, isi_int, isi_str, isi_lst, isi_tup, isi_dct, sub_tab, List.any_cons, List.any_nil, Bool.or_false, Bool.or_true, Bool.true_or, Bool.false_or, Bool.not_true, Bool.not_false,
  List.getElem?_cons_zero, List.getElem?_cons_succ, List.set_cons_zero, List.set_cons_succ, Bool.false_and, Bool.true_and, Bool.and_false, Bool.and_true, Bool.false_eq_true, if_true, if_false, ite_true, ite_false, List.length_cons, List.length_nil, List.length_map, true_and, and_true, ne_eq, not_true_eq_false, not_false_eq_true, reduceCtorEq, Nat.reduceAdd, Nat.zero_add, Int.cast_ofNat_Int, beq_self_eq_true, decide_true, decide_false])
theorem val_ne {l : List It2} (ok : Ok l) {a b : Nat} (h : a < b) (hb : b < l.length) : valI l a ≠ valI l b := by
  have nd := ok.nd
  unfold List.Nodup at nd
  rw [List.pairwise_map] at nd
  have := List.pairwise_iff_getElem.mp nd a b (by omega) hb h
  unfold valI
  rw [List.getD_eq_getElem?_getD, List.getD_eq_getElem?_getD, List.getElem?_eq_getElem (by omega), List.getElem?_eq_getElem hb]
  exact this
theorem p_is_fall : ∀ ds QD ED, m_is_fall ds QD ED → c_is_fall (startE N_is_fall ds) { nx := fun _ => QD .non, rt := fun d _ => QD d } ED := by
  intro ds QD ED h
  unfold m_is_fall at h
  split at h
  · rename_i d c
    obtain ⟨l, cc, n, hd, ok, rfl, f, h⟩ := h
    show c_is_fall [.sh d, .sh (.tup (intN cc)), .no, .no] _ ED
    have hcl := Nat.le_trans (up_len l.length cc f.up f.lt) ok.len
    have e2 : ∀ Q : D → Prop, Q (.bl true) → m_are_indexes [d, .tup (intN cc)] Q ED := fun Q q => ⟨l, cc, hd, rfl, f.up, f.lt, ok.len, q⟩
    have dn : cc.Pairwise fun i j => valI l j < valI l i := by
      have := (f.up.and f.down)
      refine this.imp_of_mem fun {i j} hi hj hij => ?_
      have := val_ne ok hij.1 (f.lt j hj)
      omega
    unfold c_is_fall
    walk_at "dl0"
    refine e2 _ ?_
    walk_at "dl0"
    show (pairs (intN cc) (cutA (intN cc) (some 1) none)).length ≤ sizeLine ∧ lcM _ _ _ _ (pairs (intN cc) (cutA (intN cc) (some 1) none)) _ _
    rw [cut1]
    refine ⟨by rw [pairs_len, intN_len, sizeLine_eq]; omega, ?_⟩
    refine nexts_ok (fun a b => [.sh d, .sh (.tup (intN cc)), .sh a, .sh b]) dn (fun a b Q q => ⟨rfl, q⟩) (fun i j hi hj hij Q q => ?_) fun n => all_true _ h
    refine its_ix (E := ED) hd (f.lt i hi) ?_
    refine its_ix (E := ED) hd (f.lt j hj) ?_
    show Q (.bl (decide (valI l j < valI l i)))
    rw [decide_eq_true hij]
    exact q
  · exact h.elim

end DL.K16

namespace DL.K16
open PySem L2 DL.K13
local macro_rules | `(tactic| walk_at "dl") => `(tactic| simp only [ret, fail, bnd, frz, cC, cVar, bVar, cBin, cNeg, cNot, cAnd, cOr, cIf, vT, tCm, tCh, tTru, tNo, tAn, tOr', cNil, cCons, cTup, cLst, cIx, oNo, oIs, cSl, cCall, callD, cCallK, cB, sNil, sSeq, sDrop, sSet, sAsg, sPar, sRet, sRetN, sIf, sBrk, sCnt, sNo, sFor, sFrz, sApp, sPut, sSetU, uOf, uPop, uPopAt, isOwL, sAdopt,
  gNm, gTp, gsCons, gsNil, tYesD, cLc, iSeq, iRng, iEn, cIsi, cLRg, cBest, cSrtSet, cRev, iZp, cCallF, cCallKF, callF, sRetO, sRetF, tLend, frzE, cDct, prM, cJoin, cel, rgsM, len_lst, len_tup, len_dct, len_str, abs_int, list_lst, list_tup, tuple_lst, tuple_tup, items_lst, items_tup, items_str, enum_lst, enum_tup,
  bin_addI, bin_subI, bin_mulI, bin_divI, bin_modI, bin_powI, bin_addS, bin_addL, bin_addT, bin_mulL, bin_mulT, bin_mulS, cmp_eq, cmp_ne, cmp_lt, cmp_le, cmp_gt, cmp_ge, cmp_is, cmp_isnt, cmp_inS, cmp_ninS, eq_int, eq_str, ix_lst, ix_tup, tru_bl, tru_lst, tru_tup, tru_int, tru_non, non_non, non_int, non_str, non_bl, non_lst, non_tup, at_zero, at_one, at_two,
  isi_non, isi_bl, isi_int, isi_str, isi_lst, isi_tup, isi_dct, sub_tab, List.any_cons, List.any_nil, Bool.or_false, Bool.or_true, Bool.true_or, Bool.false_or, Bool.not_true, Bool.not_false,
  List.getElem?_cons_zero, List.getElem?_cons_succ, List.set_cons_zero, List.set_cons_succ, Bool.false_and, Bool.true_and, Bool.and_false, Bool.and_true, Bool.false_eq_true, if_true, if_false, ite_true, ite_false, List.length_cons, List.length_nil, List.length_map, true_and, and_true, ne_eq, not_true_eq_false, not_false_eq_true, reduceCtorEq, Nat.reduceAdd, Nat.zero_add, Int.cast_ofNat_Int, beq_self_eq_true, decide_true, decide_false, *])
local macro_rules | `(tactic| walk_at "dl0") => `(tactic| simp only [ret, fail, bnd, frz, cC, cVar, bVar, cBin, cNeg, cNot, cAnd, cOr, cIf, vT, tCm, tCh, tTru, tNo, tAn, tOr', cNil, cCons, cTup, cLst, cIx, oNo, oIs, cSl, cCall, callD, cCallK, cB, sNil, sSeq, sDrop, sSet, sAsg, sPar, sRet, sRetN, sIf, sBrk, sCnt, sNo, sFor, sFrz, sApp, sPut, sSetU, uOf, uPop, uPopAt, isOwL, sAdopt,
  gNm, gTp, gsCons, gsNil, tYesD, cLc, iSeq, iRng, iEn, cIsi, cLRg, cBest, cSrtSet, cRev, iZp, cCallF, cCallKF, callF, sRetO, sRetF, tLend, frzE, cDct, prM, cJoin, cel, rgsM, len_lst, len_tup, len_dct, len_str, abs_int, list_lst, list_tup, tuple_lst, tuple_tup, items_lst, items_tup, items_str, enum_lst, enum_tup,
  bin_addI, bin_subI, bin_mulI, bin_divI, bin_modI, bin_powI, bin_addS, bin_addL, bin_addT, bin_mulL, bin_mulT, bin_mulS, cmp_eq, cmp_ne, cmp_lt, cmp_le, cmp_gt, cmp_ge, cmp_is, cmp_isnt, cmp_inS, cmp_ninS, eq_int, eq_str, ix_lst, ix_tup, tru_bl, tru_lst, tru_tup, tru_int, tru_non, non_non, non_int, non_str, non_bl, non_lst, non_tup, at_zero, at_one, at_two,
  isi_non, isi_bl, isi_int, isi_str, isi_lst, isi_tup, isi_dct, sub_tab, List.any_cons, List.any_nil, Bool.or_false, Bool.or_true, Bool.true_or, Bool.false_or, Bool.not_true, Bool.not_false,
  List.getElem?_cons_zero, List.getElem?_cons_succ, List.set_cons_zero, List.set_cons_succ, Bool.false_and, Bool.true_and, Bool.and_false, Bool.and_true, Bool.false_eq_true, if_true, if_false, ite_true, ite_false, List.length_cons, List.length_nil, List.length_map, true_and, and_true, ne_eq, not_true_eq_false, not_false_eq_true, reduceCtorEq, Nat.reduceAdd, Nat.zero_add, Int.cast_ofNat_Int, beq_self_eq_true, decide_true, decide_false])
theorem p_is_cover : ∀ ds QD ED, m_is_cover ds QD ED → c_is_cover (startE N_is_cover ds) { nx := fun _ => QD .non, rt := fun d _ => QD d } ED := by
  intro ds QD ED h
  unfold m_is_cover at h
  split at h
  · rename_i d told
    obtain ⟨l, cov, hd, ok, rfl, co, h⟩ := h
    show c_is_cover [.sh d, .sh (.lst (cov.map covD)), .no, .no, .no, .no] _ ED
    have e1 : ∀ Q : D → Prop, Q .non → m_need_items [d] Q ED := fun Q q => ⟨l, hd, ok, q⟩
    have e4 : ∀ Q : List D → Prop, Q (enumD (itsD l)) → enumM [d] Q ED := fun Q q => by rcases hd with rfl | rfl <;> exact q
    unfold c_is_cover
    walk_at "dl0"
    refine e1 _ ?_
    refine for_inv (k := 0) (fun _ ρ => ∃ c2 c3 c4 c5 : Cell, ρ = [.sh d, .sh (.lst (cov.map covD)), c2, c3, c4, c5]) ⟨_, _, _, _, rfl⟩ ?_ ?_
    · rintro i x ρ nx hx ⟨c2, c3, c4, c5, rfl⟩ hn
      rw [List.getElem?_map] at hx
      obtain ⟨c, ec, rfl⟩ := Option.map_eq_some_iff.mp hx
      have f := co.falls c (List.mem_of_getElem? ec)
      have hnx := hn [.sh d, .sh (.lst (cov.map covD)), .sh (covD c), c3, c4, c5] ⟨_, _, _, _, rfl⟩
      have ef : ∀ Q : D → Prop, Q (.bl true) → m_is_fall [d, .tup (intN c.1)] Q ED := fun Q q => ⟨l, c.1, c.2, hd, ok, rfl, f, q⟩
      have hint : ∀ Q : D → Prop, Q (.bl true) → m_is_integer [.int c.2] Q ED := fun Q q => q
      have hnum : decide (c.2 < 1) = false := decide_eq_false (by have := f.num; omega)
      clear hn
      have ec : covD c = D.tup [.tup (intN c.1), .int c.2] := rfl
      rw [ec] at hnx ⊢
      walk_at "dl0"
      refine ef _ ?_
      walk_at "dl0"
      refine hint _ ?_
      walk_at "dl0"
      rw [hnum]
      exact hnx
    · rintro ρ ⟨c2, c3, c4, c5, rfl⟩
      walk_at "dl0"
      refine e4 _ ?_
      refine for_inv (k := 0) (fun _ ρ => ∃ c2 c3 c4 c5 : Cell, ρ = [.sh d, .sh (.lst (cov.map covD)), c2, c3, c4, c5]) ⟨_, _, _, _, rfl⟩ ?_ ?_
      · rintro i x ρ nx hx ⟨c2, c3, c4, c5, rfl⟩ hn
        obtain ⟨v, w, r, hdr, rfl⟩ := enum_at hx
        obtain ⟨hil, hg, hr⟩ := drop_hd hdr
        have ew : w = wtI l i := by unfold wtI; rw [hg]
        have hci := co.cvr i hil
        rw [← ew] at hci
        have hnx := hn [.sh d, .sh (.lst (cov.map covD)), c2, .sh (.int i), .sh (.int v), .sh (.int w)] ⟨_, _, _, _, rfl⟩
        clear hn
        have hcl := co.len
        walk_at "dl0"
        refine (show _ ∧ _ from ⟨by rw [sizeLine_eq]; omega, ?_⟩)
        refine lc_fun (fun x => [.sh d, .sh (.lst (cov.map covD)), .sh x, .sh (.int i), .sh (.int v), .sh (.int w)]) (fun x => decide (i ∈ (covI x).1)) (fun x => .int (covI x).2)
          (fun x hx Q q => q) (fun x hx Q q => ?_) (fun x hx _ Q q => ?_) ?_
        · obtain ⟨c, _, rfl⟩ := List.mem_map.mp hx
          rw [covI_is] at q
          have ec : covD c = D.tup [.tup (intN c.1), .int c.2] := rfl
          rw [ec]
          show inM (.int (i : Nat)) (intN c.1) Q ED
          exact in_intN (E := ED) q
        · obtain ⟨c, _, rfl⟩ := List.mem_map.mp hx
          rw [covI_is] at q
          exact q
        · rw [covs_filter cov (fun c => decide (i ∈ c.1)) _ (fun c => .int c.2) _ (fun c _ => by rw [covI_is]) (fun c _ => by rw [covI_is])]
          have es : ((cov.filter fun c => decide (i ∈ c.1)).map fun c => D.int c.2) = ((cov.filter fun c => decide (i ∈ c.1)).map fun c => c.2).map D.int := by rw [List.map_map]; rfl
          rw [es]
          refine sum_ints ?_
          have hlt : decide (((cov.filter fun c => decide (i ∈ c.1)).map fun c => c.2).sum < w) = false := decide_eq_false (by omega)
          show (if (decide (_ < w)) = true then _ else _)
          rw [hlt, if_neg Bool.false_ne_true]
          exact hnx
      · rintro ρ ⟨c2, c3, c4, c5, rfl⟩
        exact h
  · exact h.elim

end DL.K16

namespace DL.K16
open PySem L2 DL.K13
local macro_rules | `(tactic| walk_at "dl") => `(tactic| simp only [ret, fail, bnd, frz, cC, cVar, bVar, cBin, cNeg, cNot, cAnd, cOr, cIf, vT, tCm, tCh, tTru, tNo, tAn, tOr', cNil, cCons, cTup, cLst, cIx, oNo, oIs, cSl, cCall, callD, cCallK, cB, sNil, sSeq, sDrop, sSet, sAsg, sPar, sRet, sRetN, sIf, sBrk, sCnt, sNo, sFor, sFrz, sApp, sPut, sSetU, uOf, uPop, uPopAt, isOwL, sAdopt,
  gNm, gTp, gsCons, gsNil, tYesD, cLc, iSeq, iRng, iEn, cIsi, cLRg, cBest, cSrtSet, cRev, iZp, cCallF, cCallKF, callF, sRetO, sRetF, tLend, frzE, cDct, prM, cJoin, cel, rgsM, len_lst, len_tup, len_dct, len_str, abs_int, list_lst, list_tup, tuple_lst, tuple_tup, items_lst, items_tup, items_str, enum_lst, enum_tup,
  bin_addI, bin_subI, bin_mulI, bin_divI, bin_modI, bin_powI, bin_addS, bin_addL, bin_addT, bin_mulL, bin_mulT, bin_mulS, cmp_eq, cmp_ne, cmp_lt, cmp_le, cmp_gt, cmp_ge, cmp_is, cmp_isnt, cmp_inS, cmp_ninS, eq_int, eq_str, ix_lst, ix_tup, tru_bl, tru_lst, tru_tup, tru_int, tru_non, non_non, non_int, non_str, non_bl, non_lst, non_tup, at_zero, at_one, at_two,
  isi_non, isi_bl, isi_int, isi_str, isi_lst, isi_tup, isi_dct, sub_tab, List.any_cons, List.any_nil, Bool.or_false, Bool.or_true, Bool.true_or, Bool.false_or, Bool.not_true, Bool.not_false,
  List.getElem?_cons_zero, List.getElem?_cons_succ, List.set_cons_zero, List.set_cons_succ, Bool.false_and, Bool.true_and, Bool.and_false, Bool.and_true, Bool.false_eq_true, if_true, if_false, ite_true, ite_false, List.length_cons, List.length_nil, List.length_map, true_and, and_true, ne_eq, not_true_eq_false, not_false_eq_true, reduceCtorEq, Nat.reduceAdd, Nat.zero_add, Int.cast_ofNat_Int, beq_self_eq_true, decide_true, decide_false, *])
local macro_rules | `(tactic| walk_at "dl0") => `(tactic| simp only [ret, fail, bnd, frz, cC, cVar, bVar, cBin, cNeg, cNot, cAnd, cOr, cIf, vT, tCm, tCh, tTru, tNo, tAn, tOr', cNil, cCons, cTup, cLst, cIx, oNo, oIs, cSl, cCall, callD, cCallK, cB, sNil, sSeq, sDrop, sSet, sAsg, sPar, sRet, sRetN, sIf, sBrk, sCnt, sNo, sFor, sFrz, sApp, sPut, sSetU, uOf, uPop, uPopAt, isOwL, sAdopt,
  gNm, gTp, gsCons, gsNil, tYesD, cLc, iSeq, iRng, iEn, cIsi, cLRg, cBest, cSrtSet, cRev, iZp, cCallF, cCallKF, callF, sRetO, sRetF, tLend, frzE, cDct, prM, cJoin, cel, rgsM, len_lst, len_tup, len_dct, len_str, abs_int, list_lst, list_tup, tuple_lst, tuple_tup, items_lst, items_tup, items_str, enum_lst, enum_tup,
  bin_addI, bin_subI, bin_mulI, bin_divI, bin_modI, bin_powI, bin_addS, bin_addL, bin_addT, bin_mulL, bin_mulT, bin_mulS, cmp_eq, cmp_ne, cmp_lt, cmp_le, cmp_gt, cmp_ge, cmp_is, cmp_isnt, cmp_inS, cmp_ninS, eq_int, eq_str, ix_lst, ix_tup, tru_bl, tru_lst, tru_tup, tru_int, tru_non, non_non, non_int, non_str, non_bl, non_lst, non_tup, at_zero, at_one, at_two,
  isi_non, isi_bl, isi_int, isi_str, isi_lst, isi_tup, isi_dct, sub_tab, List.any_cons, List.any_nil, Bool.or_false, Bool.or_true, Bool.true_or, Bool.false_or, Bool.not_true, Bool.not_false,
  List.getElem?_cons_zero, List.getElem?_cons_succ, List.set_cons_zero, List.set_cons_succ, Bool.false_and, Bool.true_and, Bool.and_false, Bool.and_true, Bool.false_eq_true, if_true, if_false, ite_true, ite_false, List.length_cons, List.length_nil, List.length_map, true_and, and_true, ne_eq, not_true_eq_false, not_false_eq_true, reduceCtorEq, Nat.reduceAdd, Nat.zero_add, Int.cast_ofNat_Int, beq_self_eq_true, decide_true, decide_false])
theorem p_weight_of : ∀ ds QD ED, m_weight_of ds QD ED → c_weight_of (startE N_weight_of ds) { nx := fun _ => QD .non, rt := fun d _ => QD d } ED := by
  intro ds QD ED h
  unfold m_weight_of at h
  split at h
  · rename_i d c
    obtain ⟨l, cc, hd, ok, rfl, hc, hcl, h⟩ := h
    show c_weight_of [.sh d, .sh (.tup (intN cc)), .no] _ ED
    have e1 : ∀ Q : D → Prop, Q .non → m_need_items [d] Q ED := fun Q q => ⟨l, hd, ok, q⟩
    unfold c_weight_of sSeq
    refine ⟨rfl, e1 _ ⟨by rw [intN_len, sizeLine_eq]; omega, ?_⟩⟩
    refine lc_at hd hc (f := wtI l) (fun i hi Q q => its_ix hd hi ?_) ?_
    · walk_at "dl"
    · show sumM [.lst ((cc.map (wtI l)).map D.int)] (fun a => QD a.1) ED
      exact sum_ints h
  · exact h.elim

end DL.K16

namespace DL.K16
open PySem L2 DL.K13
local macro_rules | `(tactic| walk_at "dl") => `(tactic| simp only [ret, fail, bnd, frz, cC, cVar, bVar, cBin, cNeg, cNot, cAnd, cOr, cIf, vT, tCm, tCh, tTru, tNo, tAn, tOr', cNil, cCons, cTup, cLst, cIx, oNo, oIs, cSl, cCall, callD, cCallK, cB, sNil, sSeq, sDrop, sSet, sAsg, sPar, sRet, sRetN, sIf, sBrk, sCnt, sNo, sFor, sFrz, sApp, sPut, sSetU, uOf, uPop, uPopAt, isOwL, sAdopt,
  gNm, gTp, gsCons, gsNil, tYesD, cLc, iSeq, iRng, iEn, cIsi, cLRg, cBest, cSrtSet, cRev, iZp, cCallF, cCallKF, callF, sRetO, sRetF, tLend, frzE, cDct, prM, cJoin, cel, rgsM, len_lst, len_tup, len_dct, len_str, abs_int, list_lst, list_tup, tuple_lst, tuple_tup, items_lst, items_tup, items_str, enum_lst, enum_tup,
  bin_addI, bin_subI, bin_mulI, bin_divI, bin_modI, bin_powI, bin_addS, bin_addL, bin_addT, bin_mulL, bin_mulT, bin_mulS, cmp_eq, cmp_ne, cmp_lt, cmp_le, cmp_gt, cmp_ge, cmp_is, cmp_isnt, cmp_inS, cmp_ninS, eq_int, eq_str, ix_lst, ix_tup, tru_bl, tru_lst, tru_tup, tru_int, tru_non, non_non, non_int, non_str, non_bl, non_lst, non_tup, at_zero, at_one, at_two,
  isi_non, isi_bl, isi_int, isi_str, isi_lst, isi_tup, isi_dct, sub_tab, List.any_cons, List.any_nil, Bool.or_false, Bool.or_true, Bool.true_or, Bool.false_or, Bool.not_true, Bool.not_false,
  List.getElem?_cons_zero, List.getElem?_cons_succ, List.set_cons_zero, List.set_cons_succ, Bool.false_and, Bool.true_and, Bool.and_false, Bool.and_true, Bool.false_eq_true, if_true, if_false, ite_true, ite_false, List.length_cons, List.length_nil, List.length_map, true_and, and_true, ne_eq, not_true_eq_false, not_false_eq_true, reduceCtorEq, Nat.reduceAdd, Nat.zero_add, Int.cast_ofNat_Int, beq_self_eq_true, decide_true, decide_false, *])
local macro_rules | `(tactic| walk_at "dl0") => `(tactic| simp only [ret, fail, bnd, frz, cC, cVar, bVar, cBin, cNeg, cNot, cAnd, cOr, cIf, vT, tCm, tCh, tTru, tNo, tAn, tOr', cNil, cCons, cTup, cLst, cIx, oNo, oIs, cSl, cCall, callD, cCallK, cB, sNil, sSeq, sDrop, sSet, sAsg, sPar, sRet, sRetN, sIf, sBrk, sCnt, sNo, sFor, sFrz, sApp, sPut, sSetU, uOf, uPop, uPopAt, isOwL, sAdopt,
  gNm, gTp, gsCons, gsNil, tYesD, cLc, iSeq, iRng, iEn, cIsi, cLRg, cBest, cSrtSet, cRev, iZp, cCallF, cCallKF, callF, sRetO, sRetF, tLend, frzE, cDct, prM, cJoin, cel, rgsM, len_lst, len_tup, len_dct, len_str, abs_int, list_lst, list_tup, tuple_lst, tuple_tup, items_lst, items_tup, items_str, enum_lst, enum_tup,
  bin_addI, bin_subI, bin_mulI, bin_divI, bin_modI, bin_powI, bin_addS, bin_addL, bin_addT, bin_mulL, bin_mulT, bin_mulS, cmp_eq, cmp_ne, cmp_lt, cmp_le, cmp_gt, cmp_ge, cmp_is, cmp_isnt, cmp_inS, cmp_ninS, eq_int, eq_str, ix_lst, ix_tup, tru_bl, tru_lst, tru_tup, tru_int, tru_non, non_non, non_int, non_str, non_bl, non_lst, non_tup, at_zero, at_one, at_two,
  isi_non, isi_bl, isi_int, isi_str, isi_lst, isi_tup, isi_dct, sub_tab, List.any_cons, List.any_nil, Bool.or_false, Bool.or_true, Bool.true_or, Bool.false_or, Bool.not_true, Bool.not_false,
  List.getElem?_cons_zero, List.getElem?_cons_succ, List.set_cons_zero, List.set_cons_succ, Bool.false_and, Bool.true_and, Bool.and_false, Bool.and_true, Bool.false_eq_true, if_true, if_false, ite_true, ite_false, List.length_cons, List.length_nil, List.length_map, true_and, and_true, ne_eq, not_true_eq_false, not_false_eq_true, reduceCtorEq, Nat.reduceAdd, Nat.zero_add, Int.cast_ofNat_Int, beq_self_eq_true, decide_true, decide_false])
theorem p__law_draw : DrawC (sSeq c__law_draw1 (sAdopt 2 5 c__law_draw2)) :=
  draw_std thrA_ok mixA_ok finA_ok (fun s g c n a x l Q E n0 n1 q => ⟨⟨n0, n1⟩, q⟩) (fun s g c n a x l Q E n0 q => ⟨n0, q⟩)
theorem p__law_begun : BegunC c__law_begun N__law_begun := begun_std

end DL.K16

namespace DL.K16
open PySem L2 DL.K13
local macro_rules | `(tactic| walk_at "dl") => `(tactic| simp only [ret, fail, bnd, frz, cC, cVar, bVar, cBin, cNeg, cNot, cAnd, cOr, cIf, vT, tCm, tCh, tTru, tNo, tAn, tOr', cNil, cCons, cTup, cLst, cIx, oNo, oIs, cSl, cCall, callD, cCallK, cB, sNil, sSeq, sDrop, sSet, sAsg, sPar, sRet, sRetN, sIf, sBrk, sCnt, sNo, sFor, sFrz, sApp, sPut, sSetU, uOf, uPop, uPopAt, isOwL, sAdopt,
  gNm, gTp, gsCons, gsNil, tYesD, cLc, iSeq, iRng, iEn, cIsi, cLRg, cBest, cSrtSet, cRev, iZp, cCallF, cCallKF, callF, sRetO, sRetF, tLend, frzE, cDct, prM, cJoin, cel, rgsM, len_lst, len_tup, len_dct, len_str, abs_int, list_lst, list_tup, tuple_lst, tuple_tup, items_lst, items_tup, items_str, enum_lst, enum_tup,
  bin_addI, bin_subI, bin_mulI, bin_divI, bin_modI, bin_powI, bin_addS, bin_addL, bin_addT, bin_mulL, bin_mulT, bin_mulS, cmp_eq, cmp_ne, cmp_lt, cmp_le, cmp_gt, cmp_ge, cmp_is, cmp_isnt, cmp_inS, cmp_ninS, eq_int, eq_str, ix_lst, ix_tup, tru_bl, tru_lst, tru_tup, tru_int, tru_non, non_non, non_int, non_str, non_bl, non_lst, non_tup, at_zero, at_one, at_two,
  isi_non, isi_bl, isi_int, isi_str, isi_lst, isi_tup, isi_dct, sub_tab, List.any_cons, List.any_nil, Bool.or_false, Bool.or_true, Bool.true_or, Bool.false_or, Bool.not_true, Bool.not_false,
  List.getElem?_cons_zero, List.getElem?_cons_succ, List.set_cons_zero, List.set_cons_succ, Bool.false_and, Bool.true_and, Bool.and_false, Bool.and_true, Bool.false_eq_true, if_true, if_false, ite_true, ite_false, List.length_cons, List.length_nil, List.length_map, true_and, and_true, ne_eq, not_true_eq_false, not_false_eq_true, reduceCtorEq, Nat.reduceAdd, Nat.zero_add, Int.cast_ofNat_Int, beq_self_eq_true, decide_true, decide_false, *])
local macro_rules | `(tactic| walk_at "dl0") => `(tactic| simp only [ret, fail, bnd, frz, cC, cVar, bVar, cBin, cNeg, cNot, cAnd, cOr, cIf, vT, tCm, tCh, tTru, tNo, tAn, tOr', cNil, cCons, cTup, cLst, cIx, oNo, oIs, cSl, cCall, callD, cCallK, cB, sNil, sSeq, sDrop, sSet, sAsg, sPar, sRet, sRetN, sIf, sBrk, sCnt, sNo, sFor, sFrz, sApp, sPut, sSetU, uOf, uPop, uPopAt, isOwL, sAdopt,
  gNm, gTp, gsCons, gsNil, tYesD, cLc, iSeq, iRng, iEn, cIsi, cLRg, cBest, cSrtSet, cRev, iZp, cCallF, cCallKF, callF, sRetO, sRetF, tLend, frzE, cDct, prM, cJoin, cel, rgsM, len_lst, len_tup, len_dct, len_str, abs_int, list_lst, list_tup, tuple_lst, tuple_tup, items_lst, items_tup, items_str, enum_lst, enum_tup,
  bin_addI, bin_subI, bin_mulI, bin_divI, bin_modI, bin_powI, bin_addS, bin_addL, bin_addT, bin_mulL, bin_mulT, bin_mulS, cmp_eq, cmp_ne, cmp_lt, cmp_le, cmp_gt, cmp_ge, cmp_is, cmp_isnt, cmp_inS, cmp_ninS, eq_int, eq_str, ix_lst, ix_tup, tru_bl, tru_lst, tru_tup, tru_int, tru_non, non_non, non_int, non_str, non_bl, non_lst, non_tup, at_zero, at_one, at_two,
  isi_non, isi_bl, isi_int, isi_str, isi_lst, isi_tup, isi_dct, sub_tab, List.any_cons, List.any_nil, Bool.or_false, Bool.or_true, Bool.true_or, Bool.false_or, Bool.not_true, Bool.not_false,
  List.getElem?_cons_zero, List.getElem?_cons_succ, List.set_cons_zero, List.set_cons_succ, Bool.false_and, Bool.true_and, Bool.and_false, Bool.and_true, Bool.false_eq_true, if_true, if_false, ite_true, ite_false, List.length_cons, List.length_nil, List.length_map, true_and, and_true, ne_eq, not_true_eq_false, not_false_eq_true, reduceCtorEq, Nat.reduceAdd, Nat.zero_add, Int.cast_ofNat_Int, beq_self_eq_true, decide_true, decide_false])
theorem p__law_pick : ∀ ds QD ED, m__law_pick ds QD ED → c__law_pick (startE N__law_pick ds) { nx := fun _ => QD .non, rt := fun d _ => QD d } ED := pick_std

end DL.K16

namespace DL.K16
open PySem L2 DL.K13
local macro_rules | `(tactic| walk_at "dl") => `(tactic| simp only [ret, fail, bnd, frz, cC, cVar, bVar, cBin, cNeg, cNot, cAnd, cOr, cIf, vT, tCm, tCh, tTru, tNo, tAn, tOr', cNil, cCons, cTup, cLst, cIx, oNo, oIs, cSl, cCall, callD, cCallK, cB, sNil, sSeq, sDrop, sSet, sAsg, sPar, sRet, sRetN, sIf, sBrk, sCnt, sNo, sFor, sFrz, sApp, sPut, sSetU, uOf, uPop, uPopAt, isOwL, sAdopt,
  gNm, gTp, gsCons, gsNil, tYesD, cLc, iSeq, iRng, iEn, cIsi, cLRg, cBest, cSrtSet, cRev, iZp, cCallF, cCallKF, callF, sRetO, sRetF, tLend, frzE, cDct, prM, cJoin, cel, rgsM, len_lst, len_tup, len_dct, len_str, abs_int, list_lst, list_tup, tuple_lst, tuple_tup, items_lst, items_tup, items_str, enum_lst, enum_tup,
  bin_addI, bin_subI, bin_mulI, bin_divI, bin_modI, bin_powI, bin_addS, bin_addL, bin_addT, bin_mulL, bin_mulT, bin_mulS, cmp_eq, cmp_ne, cmp_lt, cmp_le, cmp_gt, cmp_ge, cmp_is, cmp_isnt, cmp_inS, cmp_ninS, eq_int, eq_str, ix_lst, ix_tup, tru_bl, tru_lst, tru_tup, tru_int, tru_non, non_non, non_int, non_str, non_bl, non_lst, non_tup, at_zero, at_one, at_two,
  isi_non, isi_bl, isi_int, isi_str, isi_lst, isi_tup, isi_dct, sub_tab, List.any_cons, List.any_nil, Bool.or_false, Bool.or_true, Bool.true_or, Bool.false_or, Bool.not_true, Bool.not_false,
  List.getElem?_cons_zero, List.getElem?_cons_succ, List.set_cons_zero, List.set_cons_succ, Bool.false_and, Bool.true_and, Bool.and_false, Bool.and_true, Bool.false_eq_true, if_true, if_false, ite_true, ite_false, List.length_cons, List.length_nil, List.length_map, true_and, and_true, ne_eq, not_true_eq_false, not_false_eq_true, reduceCtorEq, Nat.reduceAdd, Nat.zero_add, Int.cast_ofNat_Int, beq_self_eq_true, decide_true, decide_false, *])
local macro_rules | `(tactic| walk_at "dl0") => `(tactic| simp only [ret, fail, bnd, frz, cC, cVar, bVar, cBin, cNeg, cNot, cAnd, cOr, cIf, vT, tCm, tCh, tTru, tNo, tAn, tOr', cNil, cCons, cTup, cLst, cIx, oNo, oIs, cSl, cCall, callD, cCallK, cB, sNil, sSeq, sDrop, sSet, sAsg, sPar, sRet, sRetN, sIf, sBrk, sCnt, sNo, sFor, sFrz, sApp, sPut, sSetU, uOf, uPop, uPopAt, isOwL, sAdopt,
  gNm, gTp, gsCons, gsNil, tYesD, cLc, iSeq, iRng, iEn, cIsi, cLRg, cBest, cSrtSet, cRev, iZp, cCallF, cCallKF, callF, sRetO, sRetF, tLend, frzE, cDct, prM, cJoin, cel, rgsM, len_lst, len_tup, len_dct, len_str, abs_int, list_lst, list_tup, tuple_lst, tuple_tup, items_lst, items_tup, items_str, enum_lst, enum_tup,
  bin_addI, bin_subI, bin_mulI, bin_divI, bin_modI, bin_powI, bin_addS, bin_addL, bin_addT, bin_mulL, bin_mulT, bin_mulS, cmp_eq, cmp_ne, cmp_lt, cmp_le, cmp_gt, cmp_ge, cmp_is, cmp_isnt, cmp_inS, cmp_ninS, eq_int, eq_str, ix_lst, ix_tup, tru_bl, tru_lst, tru_tup, tru_int, tru_non, non_non, non_int, non_str, non_bl, non_lst, non_tup, at_zero, at_one, at_two,
  isi_non, isi_bl, isi_int, isi_str, isi_lst, isi_tup, isi_dct, sub_tab, List.any_cons, List.any_nil, Bool.or_false, Bool.or_true, Bool.true_or, Bool.false_or, Bool.not_true, Bool.not_false,
  List.getElem?_cons_zero, List.getElem?_cons_succ, List.set_cons_zero, List.set_cons_succ, Bool.false_and, Bool.true_and, Bool.and_false, Bool.and_true, Bool.false_eq_true, if_true, if_false, ite_true, ite_false, List.length_cons, List.length_nil, List.length_map, true_and, and_true, ne_eq, not_true_eq_false, not_false_eq_true, reduceCtorEq, Nat.reduceAdd, Nat.zero_add, Int.cast_ofNat_Int, beq_self_eq_true, decide_true, decide_false])
theorem p__law_mixed : ∀ ds QD ED, m__law_mixed ds QD ED → c__law_mixed (startE N__law_mixed ds) { nx := fun _ => QD .non, rt := fun d _ => QD d } ED := mixed_std

end DL.K16

namespace DL.K16
open PySem L2 DL.K13
local macro_rules | `(tactic| walk_at "dl") => `(tactic| simp only [ret, fail, bnd, frz, cC, cVar, bVar, cBin, cNeg, cNot, cAnd, cOr, cIf, vT, tCm, tCh, tTru, tNo, tAn, tOr', cNil, cCons, cTup, cLst, cIx, oNo, oIs, cSl, cCall, callD, cCallK, cB, sNil, sSeq, sDrop, sSet, sAsg, sPar, sRet, sRetN, sIf, sBrk, sCnt, sNo, sFor, sFrz, sApp, sPut, sSetU, uOf, uPop, uPopAt, isOwL, sAdopt,
  gNm, gTp, gsCons, gsNil, tYesD, cLc, iSeq, iRng, iEn, cIsi, cLRg, cBest, cSrtSet, cRev, iZp, cCallF, cCallKF, callF, sRetO, sRetF, tLend, frzE, cDct, prM, cJoin, cel, rgsM, len_lst, len_tup, len_dct, len_str, abs_int, list_lst, list_tup, tuple_lst, tuple_tup, items_lst, items_tup, items_str, enum_lst, enum_tup,
  bin_addI, bin_subI, bin_mulI, bin_divI, bin_modI, bin_powI, bin_addS, bin_addL, bin_addT, bin_mulL, bin_mulT, bin_mulS, cmp_eq, cmp_ne, cmp_lt, cmp_le, cmp_gt, cmp_ge, cmp_is, cmp_isnt, cmp_inS, cmp_ninS, eq_int, eq_str, ix_lst, ix_tup, tru_bl, tru_lst, tru_tup, tru_int, tru_non, non_non, non_int, non_str, non_bl, non_lst, non_tup, at_zero, at_one, at_two,
  isi_non, isi_bl, isi_int, isi_str, isi_lst, isi_tup, isi_dct, sub_tab, List.any_cons, List.any_nil, Bool.or_false, Bool.or_true, Bool.true_or, Bool.false_or, Bool.not_true, Bool.not_false,
  List.getElem?_cons_zero, List.getElem?_cons_succ, List.set_cons_zero, List.set_cons_succ, Bool.false_and, Bool.true_and, Bool.and_false, Bool.and_true, Bool.false_eq_true, if_true, if_false, ite_true, ite_false, List.length_cons, List.length_nil, List.length_map, true_and, and_true, ne_eq, not_true_eq_false, not_false_eq_true, reduceCtorEq, Nat.reduceAdd, Nat.zero_add, Int.cast_ofNat_Int, beq_self_eq_true, decide_true, decide_false, *])
local macro_rules | `(tactic| walk_at "dl0") => `(tactic| simp only [ret, fail, bnd, frz, cC, cVar, bVar, cBin, cNeg, cNot, cAnd, cOr, cIf, vT, tCm, tCh, tTru, tNo, tAn, tOr', cNil, cCons, cTup, cLst, cIx, oNo, oIs, cSl, cCall, callD, cCallK, cB, sNil, sSeq, sDrop, sSet, sAsg, sPar, sRet, sRetN, sIf, sBrk, sCnt, sNo, sFor, sFrz, sApp, sPut, sSetU, uOf, uPop, uPopAt, isOwL, sAdopt,
  gNm, gTp, gsCons, gsNil, tYesD, cLc, iSeq, iRng, iEn, cIsi, cLRg, cBest, cSrtSet, cRev, iZp, cCallF, cCallKF, callF, sRetO, sRetF, tLend, frzE, cDct, prM, cJoin, cel, rgsM, len_lst, len_tup, len_dct, len_str, abs_int, list_lst, list_tup, tuple_lst, tuple_tup, items_lst, items_tup, items_str, enum_lst, enum_tup,
  bin_addI, bin_subI, bin_mulI, bin_divI, bin_modI, bin_powI, bin_addS, bin_addL, bin_addT, bin_mulL, bin_mulT, bin_mulS, cmp_eq, cmp_ne, cmp_lt, cmp_le, cmp_gt, cmp_ge, cmp_is, cmp_isnt, cmp_inS, cmp_ninS, eq_int, eq_str, ix_lst, ix_tup, tru_bl, tru_lst, tru_tup, tru_int, tru_non, non_non, non_int, non_str, non_bl, non_lst, non_tup, at_zero, at_one, at_two,
  isi_non, isi_bl, isi_int, isi_str, isi_lst, isi_tup, isi_dct, sub_tab, List.any_cons, List.any_nil, Bool.or_false, Bool.or_true, Bool.true_or, Bool.false_or, Bool.not_true, Bool.not_false,
  List.getElem?_cons_zero, List.getElem?_cons_succ, List.set_cons_zero, List.set_cons_succ, Bool.false_and, Bool.true_and, Bool.and_false, Bool.and_true, Bool.false_eq_true, if_true, if_false, ite_true, ite_false, List.length_cons, List.length_nil, List.length_map, true_and, and_true, ne_eq, not_true_eq_false, not_false_eq_true, reduceCtorEq, Nat.reduceAdd, Nat.zero_add, Int.cast_ofNat_Int, beq_self_eq_true, decide_true, decide_false])
theorem perm_ints {es : List D} {L : List Int} (h : es.Perm (L.map D.int)) : ∃ ws : List Int, es = ws.map D.int ∧ ws.Perm L := by
  have all : ∀ d ∈ es, ∃ i, d = .int i := fun d hd => by
    obtain ⟨i, _, rfl⟩ := List.mem_map.mp (h.mem_iff.mp hd)
    exact ⟨i, rfl⟩
  let un : D → Int := fun d => match d with | .int i => i | _ => 0
  refine ⟨es.map un, ?_, ?_⟩
  · rw [List.map_map]
    conv => lhs; rw [← List.map_id es]
    refine List.map_congr_left fun d hd => ?_
    obtain ⟨i, rfl⟩ := all d hd
    rfl
  · have := h.map un
    rw [List.map_map] at this
    have e : L.map (un ∘ D.int) = L := by
      conv => rhs; rw [← List.map_id L]
      rfl
    rw [e] at this
    exact this
theorem upto_ints (n : Nat) : upto 0 1 n = ((List.range n).map fun i : Nat => (i : Int)).map D.int := by
  unfold upto
  rw [List.map_map]
  refine List.map_congr_left fun i _ => ?_
  show D.int (0 + (i : Nat) * 1) = D.int (i : Nat)
  congr 1
  omega
theorem its_of {st sh hv : Int} : ∀ {ws : List Int} {rs : List D}, Paired (fun d x => ∃ wv u : Int, d = .int wv ∧ x = .tup [.int (wv * st + sh), .int (1 + u)] ∧ 0 ≤ u ∧ u < hv) (ws.map D.int) rs →
    ∃ l : List It2, rs = itsD l ∧ (l.map fun p => p.1) = ws.map (fun wv => wv * st + sh) ∧ ∀ p ∈ l, 1 ≤ p.2 ∧ p.2 ≤ hv
  | [], _, .nil => ⟨[], rfl, rfl, fun p hp => by cases hp⟩
  | w :: ws, _, .cons h t => by
    obtain ⟨wv, u, e, rfl, u0, u1⟩ := h
    cases e
    obtain ⟨l, rfl, h2, h3⟩ := its_of t
    refine ⟨(w * st + sh, 1 + u) :: l, rfl, by rw [List.map_cons, List.map_cons, h2], fun p hp => ?_⟩
    rcases List.mem_cons.mp hp with rfl | hp
    · exact ⟨by show 1 ≤ 1 + u; omega, by show 1 + u ≤ hv; omega⟩
    · exact h3 p hp
theorem p__law_items : ∀ ds QD ED, m__law_items ds QD ED → c__law_items (startE N__law_items ds) { nx := fun _ => QD .non, rt := fun d _ => QD d } ED := by
  intro ds QD ED h
  unfold m__law_items at h
  split at h
  · rename_i most heavy
    obtain ⟨⟨m0, m9, h1, hM⟩, h⟩ := h
    show c__law_items [.sh .gen, .sh (.int most), .sh (.int heavy), .no, .no, .no, .no, .no] _ ED
    unfold c__law_items sSeq
    refine ⟨rfl, ⟨by omega, by omega⟩, fun size s0 s1 => ?_⟩
    obtain ⟨n, rfl⟩ : ∃ n : Nat, size = n := ⟨size.toNat, by omega⟩
    refine ⟨⟨by omega, by omega, by omega, by omega, by omega⟩, rfl, ?_⟩
    show mixedM [.gen, .lst (upto 0 1 ((n : Int) - 0).toNat)] _ ED
    have en : ((n : Int) - 0).toNat = n := by omega
    rw [en]
    refine ⟨⟨fun d hd => ?_, by rw [upto_len]; omega⟩, fun es pm => ?_⟩
    · rw [upto_ints] at hd
      obtain ⟨i, _, rfl⟩ := List.mem_map.mp hd
      exact ⟨_, rfl, rfl, Nat.zero_le _⟩
    rw [upto_ints] at pm
    obtain ⟨ws, rfl, pw⟩ := perm_ints pm
    have hwl : ws.length = n := by rw [pw.length_eq, List.length_map, List.length_range]
    have hwb : ∀ x ∈ ws, 0 ≤ x ∧ x < n := fun x hx => by
      obtain ⟨i, hi, rfl⟩ := List.mem_map.mp (pw.mem_iff.mp hx)
      rw [List.mem_range] at hi
      omega
    have hwn : ws.Nodup := by
      refine pw.nodup_iff.mpr ?_
      unfold List.Nodup
      rw [List.pairwise_map]
      exact (List.nodup_range (n := n)).imp fun hne e => hne (by omega)
    clear pw pm
    have hkeep := h
    clear h
    refine ⟨⟨by decide, by decide, by decide⟩, by show 4 ≤ sizeLine; decide, rfl, ⟨List.cons_ne_nil _ _, by show 4 ≤ 1000; decide⟩, fun st hst => ?_⟩
    have hst2 : ∃ s : Int, st = .int s ∧ 1 ≤ s ∧ s ≤ 1000000000000 := by
      simp only [List.mem_cons, List.not_mem_nil, or_false] at hst
      rcases hst with rfl | rfl | rfl | rfl
      · exact ⟨1, rfl, by decide, by decide⟩
      · exact ⟨1, rfl, by decide, by decide⟩
      · exact ⟨3, rfl, by decide, by decide⟩
      · exact ⟨1000000000000, rfl, by decide, by decide⟩
    obtain ⟨s, rfl, s1', s2'⟩ := hst2
    refine ⟨by show 2 ≤ sizeLine; decide, rfl, ⟨by decide, by decide, by decide⟩, ⟨by decide, by decide, by decide⟩, by show 5 ≤ sizeLine; decide, rfl, ⟨List.cons_ne_nil _ _, by show 5 ≤ 1000; decide⟩, fun sh hsh => ?_⟩
    have hsh2 : ∃ z : Int, sh = .int z ∧ -100000000000000000 ≤ z ∧ z ≤ 100000000000000000 := by
      simp only [List.mem_cons, List.not_mem_nil, or_false] at hsh
      rcases hsh with rfl | rfl | rfl | rfl | rfl
      · exact ⟨0, rfl, by decide, by decide⟩
      · exact ⟨0, rfl, by decide, by decide⟩
      · exact ⟨-5, rfl, by decide, by decide⟩
      · exact ⟨100000000000000000, rfl, by decide, by decide⟩
      · exact ⟨-100000000000000000, rfl, by decide, by decide⟩
    obtain ⟨z, rfl, z1, z2⟩ := hsh2
    refine ⟨by rw [List.length_map, hwl, sizeLine_eq]; omega, ?_⟩
    refine lc_rel (fun x => [.sh .gen, .sh (.int most), .sh (.int heavy), .sh (.int n), .sh (.lst (ws.map .int)), .sh (.int s), .sh (.int z), .sh x]) (fun _ => true) (fun d x => ∃ wv u : Int, d = .int wv ∧ x = .tup [.int (wv * s + z), .int (1 + u)] ∧ 0 ≤ u ∧ u < heavy)
      (fun x _ Q q => q) (fun x _ Q q => q) (fun x hx _ Q q => ?_) (fun rs hr => ?_)
    · obtain ⟨wv, hwv, rfl⟩ := List.mem_map.mp hx
      have hb := hwb wv hwv
      refine ⟨.inl ⟨by omega, by omega⟩, rfl, ⟨by omega, by omega⟩, fun u u0 u1 => ?_⟩
      refine (show _ ∧ _ from ⟨by show 2 ≤ sizeLine; decide, ?_⟩)
      exact q _ ⟨wv, u, rfl, rfl, u0, u1⟩
    · rw [List.filter_eq_self.mpr fun _ _ => rfl] at hr
      obtain ⟨l, rfl, hf, hw⟩ := its_of hr
      have hll : l.length = n := by
        have := congrArg List.length hf
        rw [List.length_map, List.length_map, hwl] at this
        exact this
      refine hkeep l ⟨fun p hp => (hw p hp).1, ?_, by omega⟩ (fun p hp => ?_) (fun p hp => (hw p hp).2) (by omega)
      · rw [hf]
        unfold List.Nodup
        rw [List.pairwise_map]
        refine hwn.imp fun {a b} hne e => hne ?_
        have e2 : a * s = b * s := by omega
        exact Int.eq_of_mul_eq_mul_right (by omega) e2
      · have hp1 : p.1 ∈ ws.map (fun wv => wv * s + z) := by rw [← hf]; exact List.mem_map_of_mem hp
        obtain ⟨wv, hwv, e⟩ := List.mem_map.mp hp1
        have hb := hwb wv hwv
        have hp2 := hw p hp
        have b1 : 0 ≤ wv * s := Int.mul_nonneg hb.1 (by omega)
        have b2 : wv * s ≤ 200 * 1000000000000 := Int.mul_le_mul (by omega) s2' (by omega) (by decide)
        have e' : p.1 = wv * s + z := e.symm
        constructor <;> omega
  · exact h.elim

end DL.K16

namespace DL.K16
open PySem L2 DL.K13
local macro_rules | `(tactic| walk_at "dl") => `(tactic| simp only [ret, fail, bnd, frz, cC, cVar, bVar, cBin, cNeg, cNot, cAnd, cOr, cIf, vT, tCm, tCh, tTru, tNo, tAn, tOr', cNil, cCons, cTup, cLst, cIx, oNo, oIs, cSl, cCall, callD, cCallK, cB, sNil, sSeq, sDrop, sSet, sAsg, sPar, sRet, sRetN, sIf, sBrk, sCnt, sNo, sFor, sFrz, sApp, sPut, sSetU, uOf, uPop, uPopAt, isOwL, sAdopt,
  gNm, gTp, gsCons, gsNil, tYesD, cLc, iSeq, iRng, iEn, cIsi, cLRg, cBest, cSrtSet, cRev, iZp, cCallF, cCallKF, callF, sRetO, sRetF, tLend, frzE, cDct, prM, cJoin, cel, rgsM, len_lst, len_tup, len_dct, len_str, abs_int, list_lst, list_tup, tuple_lst, tuple_tup, items_lst, items_tup, items_str, enum_lst, enum_tup,
  bin_addI, bin_subI, bin_mulI, bin_divI, bin_modI, bin_powI, bin_addS, bin_addL, bin_addT, bin_mulL, bin_mulT, bin_mulS, cmp_eq, cmp_ne, cmp_lt, cmp_le, cmp_gt, cmp_ge, cmp_is, cmp_isnt, cmp_inS, cmp_ninS, eq_int, eq_str, ix_lst, ix_tup, tru_bl, tru_lst, tru_tup, tru_int, tru_non, non_non, non_int, non_str, non_bl, non_lst, non_tup, at_zero, at_one, at_two,
  isi_non, isi_bl, isi_int, isi_str, isi_lst, isi_tup, isi_dct, sub_tab, List.any_cons, List.any_nil, Bool.or_false, Bool.or_true, Bool.true_or, Bool.false_or, Bool.not_true, Bool.not_false,
  List.getElem?_cons_zero, List.getElem?_cons_succ, List.set_cons_zero, List.set_cons_succ, Bool.false_and, Bool.true_and, Bool.and_false, Bool.and_true, Bool.false_eq_true, if_true, if_false, ite_true, ite_false, List.length_cons, List.length_nil, List.length_map, true_and, and_true, ne_eq, not_true_eq_false, not_false_eq_true, reduceCtorEq, Nat.reduceAdd, Nat.zero_add, Int.cast_ofNat_Int, beq_self_eq_true, decide_true, decide_false, *])
local macro_rules | `(tactic| walk_at "dl0") => `(tactic| simp only [ret, fail, bnd, frz, cC, cVar, bVar, cBin, cNeg, cNot, cAnd, cOr, cIf, vT, tCm, tCh, tTru, tNo, tAn, tOr', cNil, cCons, cTup, cLst, cIx, oNo, oIs, cSl, cCall, callD, cCallK, cB, sNil, sSeq, sDrop, sSet, sAsg, sPar, sRet, sRetN, sIf, sBrk, sCnt, sNo, sFor, sFrz, sApp, sPut, sSetU, uOf, uPop, uPopAt, isOwL, sAdopt,
  gNm, gTp, gsCons, gsNil, tYesD, cLc, iSeq, iRng, iEn, cIsi, cLRg, cBest, cSrtSet, cRev, iZp, cCallF, cCallKF, callF, sRetO, sRetF, tLend, frzE, cDct, prM, cJoin, cel, rgsM, len_lst, len_tup, len_dct, len_str, abs_int, list_lst, list_tup, tuple_lst, tuple_tup, items_lst, items_tup, items_str, enum_lst, enum_tup,
  bin_addI, bin_subI, bin_mulI, bin_divI, bin_modI, bin_powI, bin_addS, bin_addL, bin_addT, bin_mulL, bin_mulT, bin_mulS, cmp_eq, cmp_ne, cmp_lt, cmp_le, cmp_gt, cmp_ge, cmp_is, cmp_isnt, cmp_inS, cmp_ninS, eq_int, eq_str, ix_lst, ix_tup, tru_bl, tru_lst, tru_tup, tru_int, tru_non, non_non, non_int, non_str, non_bl, non_lst, non_tup, at_zero, at_one, at_two,
  isi_non, isi_bl, isi_int, isi_str, isi_lst, isi_tup, isi_dct, sub_tab, List.any_cons, List.any_nil, Bool.or_false, Bool.or_true, Bool.true_or, Bool.false_or, Bool.not_true, Bool.not_false,
  List.getElem?_cons_zero, List.getElem?_cons_succ, List.set_cons_zero, List.set_cons_succ, Bool.false_and, Bool.true_and, Bool.and_false, Bool.and_true, Bool.false_eq_true, if_true, if_false, ite_true, ite_false, List.length_cons, List.length_nil, List.length_map, true_and, and_true, ne_eq, not_true_eq_false, not_false_eq_true, reduceCtorEq, Nat.reduceAdd, Nat.zero_add, Int.cast_ofNat_Int, beq_self_eq_true, decide_true, decide_false])
theorem max0_ok {ns : List Int} {Q : D × Bool → Prop} {E : Xn → Prop} (q : Q (.int (maxZ ns), false)) : bestsM true [.lst (.int 0 :: ns.map .int)] Q E := by
  show bestI true (D.int 0 :: ns.map .int) Q E
  unfold bestI
  have : intsD (D.int 0 :: ns.map D.int) = some (0 :: ns) := intsD_map (0 :: ns)
  rw [this]
  show Q (.int (topI 0 ns), false)
  rw [foldl_top]
  exact q
theorem p__law_top : ∀ ds QD ED, m__law_top ds QD ED → c__law_top (startE N__law_top ds) { nx := fun _ => QD .non, rt := fun d _ => QD d } ED := by
  intro ds QD ED h
  unfold m__law_top at h
  split at h
  · obtain ⟨l, rfl, pos, hl, h⟩ := h
    show c__law_top [.sh (.lst (itsD l)), .no, .no, .no, .no, .no, .no] _ ED
    unfold c__law_top sSeq
    refine ⟨Nat.zero_le _, ?_⟩
    refine for_inv (k := 0) (fun i ρ => ∃ c2 c3 c4 c5 c6 : Cell, ρ = [.sh (.lst (itsD l)), .ow (.lst ((tops l i).map .int)) none, c2, c3, c4, c5, c6]) ⟨_, _, _, _, _, rfl⟩ ?_ ?_
    · rintro i x ρ nx hx ⟨c2, c3, c4, c5, c6, rfl⟩ hn
      simp only [Nat.zero_add] at hn ⊢
      obtain ⟨v, w, r, hdr, rfl⟩ := enum_at hx
      obtain ⟨hil, hg, hr⟩ := drop_hd hdr
      have ev : v = valI l i := by unfold valI; rw [hg]
      have ew : w = wtI l i := by unfold wtI; rw [hg]
      have hnx := hn [.sh (.lst (itsD l)), .ow (.lst ((tops l (i + 1)).map .int)) none, .sh (.int i), .sh (.int v), .sh (.int w), .sh (.lst ((ahd l i).map .int)), c6] ⟨_, _, _, _, _, rfl⟩
      clear hn
      refine ⟨rfl, ⟨rfl, ?_⟩⟩
      refine (show _ ∧ _ from ⟨⟨by omega, by omega⟩, ?_⟩)
      refine (show _ ∧ _ from ⟨by rw [upto_len]; exact Nat.le_trans (Nat.le_of_lt (show ((i : Nat) : Int).toNat < 250 by omega)) (by decide), ?_⟩)
      rw [show ((i : Nat) : Int).toNat = i by omega]
      refine ahd_ok (c2 := .sh (.int i)) (c4 := .sh (.int w)) (c5 := c5) (E := ED) (.inl rfl) hil ev ?_
      have al : (ahd l i).length ≤ 250 := by
        unfold ahd
        rw [List.length_map]
        exact Nat.le_trans (List.length_filter_le _ _) (by rw [List.length_range]; omega)
      refine ⟨trivial, ?_⟩
      refine (show _ ∧ _ from ⟨by decide, ?_⟩)
      refine (show _ ∧ _ from ⟨by rw [List.length_map]; show 1 + (ahd l i).length ≤ _; rw [sizeLine_eq]; omega, ?_⟩)
      dsimp only [ret, bnd, cNil]
      refine max0_ok ?_
      have hs := tops_snoc l i
      rw [← ew] at hs
      have hlen : ((tops l i).map D.int).length < sizeLine := by rw [List.length_map, tops_len]; exact Nat.lt_of_lt_of_le (show i < 250 by omega) (by decide)
      refine (show _ ∧ _ from ⟨hlen, ?_⟩)
      rw [hs]
      exact hnx
    · rintro ρ ⟨c2, c3, c4, c5, c6, rfl⟩
      rw [Nat.zero_add, enumD_len, its_len]
      refine (show _ ∧ _ from ⟨by decide, ?_⟩)
      refine (show _ ∧ _ from ⟨by rw [List.length_map, tops_len]; show 1 + l.length ≤ _; rw [sizeLine_eq]; omega, ?_⟩)
      dsimp only [ret, bnd, cNil]
      exact max0_ok (ns := tops l l.length) (Q := fun a => QD a.1) h
  · exact h.elim

end DL.K16

namespace DL.K16
open PySem L2 DL.K13
local macro_rules | `(tactic| walk_at "dl") => `(tactic| simp only [ret, fail, bnd, frz, cC, cVar, bVar, cBin, cNeg, cNot, cAnd, cOr, cIf, vT, tCm, tCh, tTru, tNo, tAn, tOr', cNil, cCons, cTup, cLst, cIx, oNo, oIs, cSl, cCall, callD, cCallK, cB, sNil, sSeq, sDrop, sSet, sAsg, sPar, sRet, sRetN, sIf, sBrk, sCnt, sNo, sFor, sFrz, sApp, sPut, sSetU, uOf, uPop, uPopAt, isOwL, sAdopt,
  gNm, gTp, gsCons, gsNil, tYesD, cLc, iSeq, iRng, iEn, cIsi, cLRg, cBest, cSrtSet, cRev, iZp, cCallF, cCallKF, callF, sRetO, sRetF, tLend, frzE, cDct, prM, cJoin, cel, rgsM, len_lst, len_tup, len_dct, len_str, abs_int, list_lst, list_tup, tuple_lst, tuple_tup, items_lst, items_tup, items_str, enum_lst, enum_tup,
  bin_addI, bin_subI, bin_mulI, bin_divI, bin_modI, bin_powI, bin_addS, bin_addL, bin_addT, bin_mulL, bin_mulT, bin_mulS, cmp_eq, cmp_ne, cmp_lt, cmp_le, cmp_gt, cmp_ge, cmp_is, cmp_isnt, cmp_inS, cmp_ninS, eq_int, eq_str, ix_lst, ix_tup, tru_bl, tru_lst, tru_tup, tru_int, tru_non, non_non, non_int, non_str, non_bl, non_lst, non_tup, at_zero, at_one, at_two,
  isi_non, isi_bl, isi_int, isi_str, isi_lst, isi_tup, isi_dct, sub_tab, List.any_cons, List.any_nil, Bool.or_false, Bool.or_true, Bool.true_or, Bool.false_or, Bool.not_true, Bool.not_false,
  List.getElem?_cons_zero, List.getElem?_cons_succ, List.set_cons_zero, List.set_cons_succ, Bool.false_and, Bool.true_and, Bool.and_false, Bool.and_true, Bool.false_eq_true, if_true, if_false, ite_true, ite_false, List.length_cons, List.length_nil, List.length_map, true_and, and_true, ne_eq, not_true_eq_false, not_false_eq_true, reduceCtorEq, Nat.reduceAdd, Nat.zero_add, Int.cast_ofNat_Int, beq_self_eq_true, decide_true, decide_false, *])
local macro_rules | `(tactic| walk_at "dl0") => `(tactic| simp only [ret, fail, bnd, frz, cC, cVar, bVar, cBin, cNeg, cNot, cAnd, cOr, cIf, vT, tCm, tCh, tTru, tNo, tAn, tOr', cNil, cCons, cTup, cLst, cIx, oNo, oIs, cSl, cCall, callD, cCallK, cB, sNil, sSeq, sDrop, sSet, sAsg, sPar, sRet, sRetN, sIf, sBrk, sCnt, sNo, sFor, sFrz, sApp, sPut, sSetU, uOf, uPop, uPopAt, isOwL, sAdopt,
  gNm, gTp, gsCons, gsNil, tYesD, cLc, iSeq, iRng, iEn, cIsi, cLRg, cBest, cSrtSet, cRev, iZp, cCallF, cCallKF, callF, sRetO, sRetF, tLend, frzE, cDct, prM, cJoin, cel, rgsM, len_lst, len_tup, len_dct, len_str, abs_int, list_lst, list_tup, tuple_lst, tuple_tup, items_lst, items_tup, items_str, enum_lst, enum_tup,
  bin_addI, bin_subI, bin_mulI, bin_divI, bin_modI, bin_powI, bin_addS, bin_addL, bin_addT, bin_mulL, bin_mulT, bin_mulS, cmp_eq, cmp_ne, cmp_lt, cmp_le, cmp_gt, cmp_ge, cmp_is, cmp_isnt, cmp_inS, cmp_ninS, eq_int, eq_str, ix_lst, ix_tup, tru_bl, tru_lst, tru_tup, tru_int, tru_non, non_non, non_int, non_str, non_bl, non_lst, non_tup, at_zero, at_one, at_two,
  isi_non, isi_bl, isi_int, isi_str, isi_lst, isi_tup, isi_dct, sub_tab, List.any_cons, List.any_nil, Bool.or_false, Bool.or_true, Bool.true_or, Bool.false_or, Bool.not_true, Bool.not_false,
  List.getElem?_cons_zero, List.getElem?_cons_succ, List.set_cons_zero, List.set_cons_succ, Bool.false_and, Bool.true_and, Bool.and_false, Bool.and_true, Bool.false_eq_true, if_true, if_false, ite_true, ite_false, List.length_cons, List.length_nil, List.length_map, true_and, and_true, ne_eq, not_true_eq_false, not_false_eq_true, reduceCtorEq, Nat.reduceAdd, Nat.zero_add, Int.cast_ofNat_Int, beq_self_eq_true, decide_true, decide_false])
def bp : List It2 → List It2
  | [] => []
  | (v, w) :: r => (w + mx (some v) r, v) :: bp r
theorem bp_len : ∀ l : List It2, (bp l).length = l.length
  | [] => rfl
  | (v, w) :: r => congrArg Nat.succ (bp_len r)
theorem bp_drop : ∀ (l : List It2) (k : Nat), bp (l.drop k) = (bp l).drop k
  | l, 0 => rfl
  | [], k + 1 => by rw [List.drop_nil]; exact (List.drop_nil).symm
  | (v, w) :: r, k + 1 => bp_drop r k
theorem bp_map : ∀ l : List It2, (bp l).map (fun p => p.1) = bestL l
  | [] => rfl
  | (v, w) :: r => congrArg (List.cons (w + mx (some v) r)) (bp_map r)
def bsel (v : Int) (B : List It2) : List Int := (B.filter fun p => decide (v < p.2)).map fun p => p.1
theorem maxZ_bp (u : Int) : ∀ r : List It2, Pos r → maxZ (bsel u (bp r)) = mx (some u) r
  | [], _ => rfl
  | (v, w) :: r, h => by
    have ih := maxZ_bp u r h.tl
    have hw := h _ List.mem_cons_self
    simp only at hw
    have h0 := mx_nn r (some v) h.tl
    rw [mx_cons]
    show maxZ (bsel u ((w + mx (some v) r, v) :: bp r)) = if decide (u < v) = true then _ else _
    unfold bsel at ih ⊢
    rw [List.filter_cons]
    show maxZ (List.map _ (if decide (u < v) = true then _ else _)) = _
    split
    · rw [List.map_cons, maxZ_cons _ _ (by show 0 ≤ w + mx (some v) r; omega), ih]
    · exact ih
theorem maxZ_iff {A B : List Int} (h : ∀ x, x ∈ A ↔ x ∈ B) : maxZ A = maxZ B := by
  have le : ∀ {A B : List Int}, (∀ x, x ∈ A → x ∈ B) → maxZ A ≤ maxZ B := by
    intro A B h
    rcases maxZ_mem (ns := A) with e | e
    · rw [e]; exact maxZ_nn B
    · exact maxZ_ge (h _ e)
  have h1 := le fun x hx => (h x).mp hx
  have h2 := le fun x hx => (h x).mpr hx
  omega
theorem maxZ_bsel_rev (v : Int) {r : List It2} (h : Pos r) : maxZ (bsel v (bp r).reverse) = mx (some v) r := by
  rw [← maxZ_bp v r h]
  refine maxZ_iff fun x => ?_
  unfold bsel
  rw [List.filter_reverse, List.map_reverse, List.mem_reverse]
theorem rng_sel (p : It2 → Bool) (f : It2 → Int) : ∀ B : List It2, ((List.range B.length).filter fun k => p (B.getD k (0, 0))).map (fun k => f (B.getD k (0, 0))) = (B.filter p).map f
  | [] => rfl
  | b :: B => by
    have ih := rng_sel p f B
    rw [List.length_cons, List.range_succ_eq_map, List.filter_cons, List.filter_map, List.filter_cons]
    show List.map _ (if p b = true then _ else _) = List.map f (if p b = true then _ else _)
    split
    · rw [List.map_cons, List.map_map, List.map_cons, ← ih]; rfl
    · rw [List.map_map, ← ih]; rfl
theorem upto_all {n : Nat} {x : D} (h : x ∈ upto 0 1 n) : ∃ o : Nat, o < n ∧ x = .int (o : Nat) := by
  obtain ⟨o, ho⟩ := List.getElem?_of_mem h
  have h1 := lt_of_at ho
  rw [upto_len] at h1
  have h2 := upto_at ho
  have e : (0 : Int) + (o : Nat) * 1 = (o : Nat) := by omega
  rw [e] at h2
  exact ⟨o, h1, h2⟩
theorem upto_int (n : Nat) : upto 0 1 n = (List.range n).map fun o : Nat => D.int (o : Nat) := by
  unfold upto
  refine List.map_congr_left fun o _ => ?_
  show D.int ((0 : Int) + (o : Nat) * 1) = _
  rw [show (0 : Int) + (o : Nat) * 1 = (o : Nat) by omega]
theorem bsel_upto (v : Int) (B : List It2) : ((upto 0 1 B.length).filter fun x => match x with | .int o => decide (v < wtI B o.toNat) | _ => false).map (fun x => match x with | .int o => D.int (valI B o.toNat) | x => x) = (bsel v B).map .int := by
  unfold bsel
  rw [← rng_sel, upto_int, List.filter_map, List.map_map, List.map_map]
  rfl
theorem bp_at {l : List It2} {i : Nat} {v w : Int} {r : List It2} (h : l.drop i = (v, w) :: r) : (bp l).drop i = (w + mx (some v) r, v) :: bp r := by
  rw [← bp_drop, h]; rfl
theorem rev_app (l : List It2) (b v : Int) : itsD (bp l).reverse ++ [D.tup [.int b, .int v]] = itsD ((b, v) :: bp l).reverse := by
  rw [List.reverse_cons]
  unfold itsD
  rw [List.map_append]
  rfl
theorem p__law_least_heavy : ∀ ds QD ED, m__law_least_heavy ds QD ED → c__law_least_heavy (startE N__law_least_heavy ds) { nx := fun _ => QD .non, rt := fun d _ => QD d } ED := by
  intro ds QD ED h
  unfold m__law_least_heavy at h
  split at h
  · obtain ⟨l, rfl, ok, h⟩ := h
    have hl := ok.len
    have il := its_len l
    have pos := ok.pos
    show c__law_least_heavy [.sh (.lst (itsD l)), .no, .no, .no, .no, .no, .no, .no, .no] _ ED
    unfold c__law_least_heavy
    walk_at "dl0"
    rw [il]
    refine ⟨Nat.zero_le _, l.length, ?_, ?_⟩
    · have := RgC.neg (i := (l.length : Int) - 1) (j := -1) (by omega) (by omega) (by omega) (by omega)
      have e : ((l.length : Int) - 1 - -1).toNat = l.length := by omega
      rw [e] at this
      exact this
    refine for_inv (k := 0) (fun i ρ => i ≤ l.length ∧ ∃ c2 c3 c4 : Cell, ρ = [.sh (.lst (itsD l)), .ow (.lst (itsD (bp (l.drop (l.length - i))).reverse)) none, c2, c3, c4, .no, .no, .no, .no]) ⟨Nat.zero_le _, .no, .no, .no, by rw [Nat.sub_zero, List.drop_length]; rfl⟩ ?_ ?_
    · rintro i x ρ nx hx ⟨hi, c2, c3, c4, rfl⟩ hn
      have hlt := lt_of_at hx
      rw [upto_len] at hlt
      simp only [Nat.zero_add] at hi hn ⊢
      have hx := upto_at hx
      obtain ⟨k, hk⟩ : ∃ k : Nat, l.length - i = k + 1 := ⟨l.length - i - 1, by omega⟩
      have hkl : k < l.length := by omega
      have ek : (l.length : Int) - 1 + (i : Nat) * -1 = (k : Int) := by omega
      rw [ek] at hx
      subst hx
      obtain ⟨v, w, r, hdr⟩ : ∃ v w r, l.drop k = (v, w) :: r := ⟨(l[k]'(by omega)).1, (l[k]'(by omega)).2, l.drop (k + 1), List.drop_eq_getElem_cons (by omega)⟩
      obtain ⟨_, hg, hr⟩ := drop_hd hdr
      have ev : valI l k = v := by unfold valI; rw [hg]
      have ew : wtI l k = w := by unfold wtI; rw [hg]
      rw [hk, hr]
      have posr : Pos r := fun p hp => pos p (by rw [← hr] at hp; exact List.mem_of_mem_drop hp)
      have hB : (bp r).reverse.length ≤ 250 := by
        rw [List.length_reverse, bp_len, ← hr, List.length_drop]; omega
      have hmx := maxZ_bsel_rev v posr
      have happ := rev_app r (w + mx (some v) r) v
      have hnx : ∀ c3 c4 : Cell, nx [.sh (.lst (itsD l)), .ow (.lst (itsD ((w + mx (some v) r, v) :: bp r).reverse)) none, .sh (.int k), c3, c4, .no, .no, .no, .no] := fun c3 c4 => hn _ ⟨by omega, _, _, _, by rw [show l.length - (i + 1) = k by omega, hdr]; rfl⟩
      rw [← happ] at hnx
      clear hn happ h
      generalize hBd : (bp r).reverse = B at *
      have ib := its_len B
      have its : ∀ Q : D → Prop, Q (.tup [.int v, .int w]) → ixM (.lst (itsD l)) (.int (k : Nat)) Q ED := fun Q q => its_ix (E := ED) (.inl rfl) hkl (by rw [ev, ew]; exact q)
      walk_at "dl0"
      rw [ib]
      refine (show _ ∧ _ from ⟨⟨by omega, by omega⟩, ?_⟩)
      refine (show _ ∧ _ from ⟨by rw [upto_len]; exact Nat.le_trans (show (B.length : Int).toNat ≤ 250 by omega) (by decide), ?_⟩)
      rw [Int.toNat_natCast]
      refine lc_fun (fun x => [.sh (.lst (itsD l)), .ow (.lst (itsD B)) none, .sh (.int k), c3, .sh x, .no, .no, .no, .no]) (fun x => match x with | .int o => decide (v < wtI B o.toNat) | _ => false) (fun x => match x with | .int o => D.int (valI B o.toNat) | x => x)
        (fun x _ Q q => q) (fun x hx Q q => ?_) (fun x hx _ Q q => ?_) ?_
      · obtain ⟨o, ho, rfl⟩ := upto_all hx
        have itb : ∀ Q : D → Prop, Q (.tup [.int (valI B o), .int (wtI B o)]) → ixM (.lst (itsD B)) (.int (o : Nat)) Q ED := fun Q q => its_ix (E := ED) (.inl rfl) ho q
        have q : Q (decide (v < wtI B ((o : Nat) : Int).toNat)) := q
        rw [Int.toNat_natCast] at q
        clear hnx
        walk_at "dl0"
        refine itb _ ?_
        walk_at "dl0"
        refine its _ ?_
        exact q
      · obtain ⟨o, ho, rfl⟩ := upto_all hx
        have itb : ∀ Q : D → Prop, Q (.tup [.int (valI B o), .int (wtI B o)]) → ixM (.lst (itsD B)) (.int (o : Nat)) Q ED := fun Q q => its_ix (E := ED) (.inl rfl) ho q
        have q : Q (D.int (valI B ((o : Nat) : Int).toNat)) := q
        rw [Int.toNat_natCast] at q
        clear hnx
        walk_at "dl0"
        refine itb _ ?_
        exact q
      · rw [bsel_upto]
        have hbl : (bsel v B).length ≤ 250 := by
          unfold bsel
          rw [List.length_map]
          exact Nat.le_trans (List.length_filter_le _ _) hB
        have mx0 : ∀ Q : D × Bool → Prop, Q (.int (mx (some v) r), false) → bestsM true [.lst (.int 0 :: (bsel v B).map .int)] Q ED := fun Q q => max0_ok (by rw [hmx]; exact q)
        walk_at "dl0"
        refine its _ ?_
        walk_at "dl0"
        refine ⟨by decide, by rw [sizeLine_eq]; omega, ?_⟩
        refine mx0 _ ?_
        show ixM (.lst (itsD l)) (.int (k : Nat)) _ ED
        refine its _ ?_
        exact ⟨by decide, Nat.lt_of_le_of_lt hB (by decide), hnx _ _⟩
    · rintro ρ ⟨_, c2, c3, c4, rfl⟩
      rw [Nat.zero_add, upto_len, Nat.sub_self, List.drop_zero]
      have erev : (itsD (bp l).reverse).reverse = itsD (bp l) := by
        unfold itsD; rw [← List.map_reverse, List.reverse_reverse]
      walk_at "dl0"
      dsimp only [revM, ret]
      rw [erev]
      have blen : (bp l).length ≤ 250 := by rw [bp_len]; exact hl
      have mxb : maxZ (bestL l) = mx none l := maxZ_best l pos
      have mx0 : ∀ Q : D × Bool → Prop, Q (.int (mx none l), false) → bestsM true [.lst (.int 0 :: (bestL l).map .int)] Q ED := fun Q q => max0_ok (by rw [mxb]; exact q)
      refine (show _ ∧ _ from ⟨by decide, ?_⟩)
      refine (show _ ∧ _ from ⟨by rw [its_len, sizeLine_eq]; omega, ?_⟩)
      refine lc_map (fun x => match x with | .tup [a, _] => a | x => x) (fun x hx Q q => ?_) ?_
      · obtain ⟨p, _, rfl⟩ := List.mem_map.mp hx
        exact q
      have em : (itsD (bp l)).map (fun x => match x with | .tup [a, _] => a | x => x) = (bestL l).map D.int := by
        rw [← bp_map]; unfold itsD; rw [List.map_map, List.map_map]; rfl
      rw [em]
      refine (show _ ∧ _ from ⟨by rw [List.length_map, bestL_len, sizeLine_eq]; omega, ?_⟩)
      refine mx0 _ ?_
      refine (show _ ∧ _ from ⟨Nat.zero_le _, ?_⟩)
      refine for_inv (k := 0) (fun i ρ => ∃ (c : List Nat) (lo : Option Int) (c2 c3 c4 c7 c8 : Cell), ρ = [.sh (.lst (itsD l)), .sh (.lst (itsD (bp l))), c2, c3, c4, .sh (.int (mx lo (l.drop i))), .sh (.tup (intN c)), c7, c8] ∧ LoOk l c lo ∧ c.length ≤ i ∧ c ++ G lo i (l.drop i) = G none 0 l)
        ⟨[], none, _, _, _, _, _, rfl, .inl ⟨rfl, rfl⟩, Nat.le_refl _, rfl⟩ ?_ ?_
      · rintro i x ρ nx hx ⟨c, lo, c2, c3, c4, c7, c8, rfl, hlo, hcl, hG⟩ hn
        simp only [Nat.zero_add] at hn hcl hG ⊢
        obtain ⟨b, v', r', hdrb, rfl⟩ := enum_at hx
        have hib : i < l.length := by have := (drop_hd hdrb).1; rwa [bp_len] at this
        obtain ⟨v, w, r, hdr⟩ : ∃ v w r, l.drop i = (v, w) :: r := ⟨(l[i]'(by omega)).1, (l[i]'(by omega)).2, l.drop (i + 1), List.drop_eq_getElem_cons (by omega)⟩
        rw [bp_at hdr] at hdrb
        obtain ⟨e1, _⟩ := List.cons_eq_cons.mp hdrb
        obtain ⟨rfl, rfl⟩ : b = w + mx (some v) r ∧ v = v' := ⟨congrArg Prod.fst e1.symm, congrArg Prod.snd e1⟩
        clear e1 hdrb
        obtain ⟨hil, hg, hr⟩ := drop_hd hdr
        have ev : valI l i = v := by unfold valI; rw [hg]
        have ew : wtI l i = w := by unfold wtI; rw [hg]
        have posr : Pos r := fun p hp => pos p (by rw [← hr] at hp; exact List.mem_of_mem_drop hp)
        have w1 : 1 ≤ w := by rw [← ew]; exact wt_pos pos hil
        have h0 := mx_nn r (some v) posr
        have its : ∀ Q : D → Prop, Q (.tup [.int v, .int w]) → ixM (.lst (itsD l)) (.int (i : Nat)) Q ED := fun Q q => its_ix (E := ED) (.inl rfl) hil (by rw [ev, ew]; exact q)
        have fits : ∀ (ρ : Env) (Q : D × Bool → Prop), ρ = [.sh (.lst (itsD l)), .sh (.lst (itsD (bp l))), .sh (.int i), c3, c4, .sh (.int (mx lo (l.drop i))), .sh (.tup (intN c)), .sh (.tup [.int (w + mx (some v) r), .int v]), c8] → Q (.bl (above lo v), false) →
            cOr (vT (tCm .Eq (bVar 6) (frz (cTup (cNil))))) (vT (tCm .Lt (frz (cIx (frz (cIx (bVar 0) (frz (cIx (bVar 6) (frz (cNeg (frz (cC (.int 1))))))))) (frz (cC (.int 0))))) (frz (cIx (bVar 7) (frz (cC (.int 1))))))) ρ Q ED := fun ρ Q e q => by
          subst e
          clear hn h its
          walk_at "dl"
          refine ⟨Nat.zero_le _, ?_⟩
          refine eq_nilT (intN_py c) ?_
          rcases hlo with ⟨rfl, rfl⟩ | ⟨hne, rfl, hlast⟩
          · exact q
          · have he : (intN c).isEmpty = false := by
              cases c with
              | nil => exact absurd rfl hne
              | cons a b => rfl
            rw [he]
            have hne2 : intN c ≠ [] := fun z => by rw [z] at he; cases he
            have gm : ∀ h2 : (c.map fun i : Nat => D.int (i : Nat)) ≠ [], (c.map fun i : Nat => D.int (i : Nat)).getLast h2 = .int (c.getLast hne : Nat) := fun h2 => by rw [List.getLast_map]
            have hg2 : (intN c).getLast hne2 = .int (c.getLast hne : Nat) := gm hne2
            have al := at_last (ds := intN c) (h := hne2)
            rw [hg2] at al
            show ixM (.tup (intN c)) (.int (-1)) _ ED
            show match atI (intN c) (-1) with | some d => _ | none => False
            rw [al]
            exact its_ix (E := ED) (.inl rfl) hlast q
        have step : (above lo v && decide (w + mx (some v) r = mx lo (l.drop i))) = true → ∀ c7 c8 : Cell, nx [.sh (.lst (itsD l)), .sh (.lst (itsD (bp l))), .sh (.int i), c3, c4, .sh (.int (mx (some v) r)), .sh (.tup (intN (c ++ [i]))), c7, c8] := fun hc c7 c8 => by
          refine hn _ ⟨c ++ [i], some v, _, _, _, _, _, by rw [hr], .inr ⟨by simp, ?_, ?_⟩, by rw [List.length_append, List.length_singleton]; omega, ?_⟩
          · have gl : ∀ h, (c ++ [i]).getLast h = i := fun h => by simp
            rw [gl, ev]
          · have gl : ∀ h, (c ++ [i]).getLast h = i := fun h => by simp
            rw [gl]; exact hil
          · rw [hr, ← hG, hdr, G_cons, List.append_assoc]
            rw [hdr] at hc
            rw [if_pos hc]
            rfl
        have step2 : (above lo v && decide (w + mx (some v) r = mx lo (l.drop i))) = false → ∀ c7 c8 : Cell, nx [.sh (.lst (itsD l)), .sh (.lst (itsD (bp l))), .sh (.int i), c3, c4, .sh (.int (mx lo (l.drop i))), .sh (.tup (intN c)), c7, c8] := fun hc c7 c8 => by
          have em : mx lo (l.drop i) = mx lo r := by
            rw [hdr] at hc ⊢
            rw [mx_cons]
            by_cases a : above lo v = true
            · rw [if_pos a]
              rw [a, Bool.true_and, decide_eq_false_iff_not, mx_cons, if_pos a] at hc
              omega
            · rw [if_neg a]
          refine hn _ ⟨c, lo, _, _, _, _, _, by rw [hr, em], ?_, by omega, ?_⟩
          · exact hlo
          · rw [hr, ← hG, hdr, G_cons]
            rw [hdr] at hc
            rw [hc, if_neg Bool.false_ne_true]
        clear hn h
        refine (show _ ∧ _ from ⟨rfl, ?_⟩)
        refine fits _ _ rfl ?_
        clear fits
        generalize hL : mx lo (l.drop i) = left at step step2 ⊢
        generalize above lo v = av at step step2 ⊢
        have eN : intN c ++ [.int (i : Nat)] = intN (c ++ [i]) := by unfold intN; rw [List.map_append]; rfl
        have cl : (intN c).length = c.length := by unfold intN; rw [List.length_map]
        have cl2 : (intN c).length + 1 ≤ sizeLine := by rw [cl, sizeLine_eq]; omega
        have sub : w + mx (some v) r - w = mx (some v) r := by omega
        by_cases hp : (0 : Int) < left
        · have hp' := decide_eq_true hp
          by_cases he : w + mx (some v) r = left
          · have hb : (w + mx (some v) r == left) = true := by simpa using he
            cases av with
            | true =>
              have q := step (by rw [Bool.true_and, decide_eq_true_eq]; exact he)
              clear step step2
              subst he
              walk_at "dl0"
              simp only [hp', hb, if_true, ret, bnd, truM]
              walk_at "dl0"
              refine ⟨by decide, cl2, ?_⟩
              show ixM (.lst (itsD l)) (.int (i : Nat)) _ ED
              refine its _ ?_
              walk_at "dl0"
              rw [sub, eN]
              exact q _ _
            | false =>
              have q := step2 (by rw [Bool.false_and])
              clear step step2
              walk_at "dl0"
              simp only [hp', hb, if_true, ret, bnd, truM]
              walk_at "dl0"
              rw [hb]
              exact q _ _
          · have hb : (w + mx (some v) r == left) = false := by simpa using he
            have q := step2 (by rw [decide_eq_false he, Bool.and_false])
            clear step step2
            walk_at "dl0"
            simp only [hp', hb, if_true, ret, bnd, truM]
            walk_at "dl0"
            rw [hb]
            exact q _ _
        · have hp' := decide_eq_false hp
          have q := step2
          clear step step2
          walk_at "dl0"
          rw [hp']
          refine q ?_ _ _
          rw [decide_eq_false (by omega), Bool.and_false]
      · rintro ρ ⟨c, lo, c2, c3, c4, c7, c8, rfl, hlo, hcl, hG⟩
        rw [Nat.zero_add, enumD_len, its_len, bp_len, List.drop_length] at hG
        have hG : c ++ [] = G none 0 l := hG
        rw [List.append_nil] at hG
        subst hG
        exact h
  · exact h.elim

end DL.K16

namespace DL.K16
open PySem L2 DL.K13
local macro_rules | `(tactic| walk_at "dl") => `(tactic| simp only [ret, fail, bnd, frz, cC, cVar, bVar, cBin, cNeg, cNot, cAnd, cOr, cIf, vT, tCm, tCh, tTru, tNo, tAn, tOr', cNil, cCons, cTup, cLst, cIx, oNo, oIs, cSl, cCall, callD, cCallK, cB, sNil, sSeq, sDrop, sSet, sAsg, sPar, sRet, sRetN, sIf, sBrk, sCnt, sNo, sFor, sFrz, sApp, sPut, sSetU, uOf, uPop, uPopAt, isOwL, sAdopt,
  gNm, gTp, gsCons, gsNil, tYesD, cLc, iSeq, iRng, iEn, cIsi, cLRg, cBest, cSrtSet, cRev, iZp, cCallF, cCallKF, callF, sRetO, sRetF, tLend, frzE, cDct, prM, cJoin, cel, rgsM, len_lst, len_tup, len_dct, len_str, abs_int, list_lst, list_tup, tuple_lst, tuple_tup, items_lst, items_tup, items_str, enum_lst, enum_tup,
  bin_addI, bin_subI, bin_mulI, bin_divI, bin_modI, bin_powI, bin_addS, bin_addL, bin_addT, bin_mulL, bin_mulT, bin_mulS, cmp_eq, cmp_ne, cmp_lt, cmp_le, cmp_gt, cmp_ge, cmp_is, cmp_isnt, cmp_inS, cmp_ninS, eq_int, eq_str, ix_lst, ix_tup, tru_bl, tru_lst, tru_tup, tru_int, tru_non, non_non, non_int, non_str, non_bl, non_lst, non_tup, at_zero, at_one, at_two,
  isi_non, isi_bl, isi_int, isi_str, isi_lst, isi_tup, isi_dct, sub_tab, List.any_cons, List.any_nil, Bool.or_false, Bool.or_true, Bool.true_or, Bool.false_or, Bool.not_true, Bool.not_false,
  List.getElem?_cons_zero, List.getElem?_cons_succ, List.set_cons_zero, List.set_cons_succ, Bool.false_and, Bool.true_and, Bool.and_false, Bool.and_true, Bool.false_eq_true, if_true, if_false, ite_true, ite_false, List.length_cons, List.length_nil, List.length_map, true_and, and_true, ne_eq, not_true_eq_false, not_false_eq_true, reduceCtorEq, Nat.reduceAdd, Nat.zero_add, Int.cast_ofNat_Int, beq_self_eq_true, decide_true, decide_false, *])
local macro_rules | `(tactic| walk_at "dl0") => `(tactic| simp only [ret, fail, bnd, frz, cC, cVar, bVar, cBin, cNeg, cNot, cAnd, cOr, cIf, vT, tCm, tCh, tTru, tNo, tAn, tOr', cNil, cCons, cTup, cLst, cIx, oNo, oIs, cSl, cCall, callD, cCallK, cB, sNil, sSeq, sDrop, sSet, sAsg, sPar, sRet, sRetN, sIf, sBrk, sCnt, sNo, sFor, sFrz, sApp, sPut, sSetU, uOf, uPop, uPopAt, isOwL, sAdopt,
  gNm, gTp, gsCons, gsNil, tYesD, cLc, iSeq, iRng, iEn, cIsi, cLRg, cBest, cSrtSet, cRev, iZp, cCallF, cCallKF, callF, sRetO, sRetF, tLend, frzE, cDct, prM, cJoin, cel, rgsM, len_lst, len_tup, len_dct, len_str, abs_int, list_lst, list_tup, tuple_lst, tuple_tup, items_lst, items_tup, items_str, enum_lst, enum_tup,
  bin_addI, bin_subI, bin_mulI, bin_divI, bin_modI, bin_powI, bin_addS, bin_addL, bin_addT, bin_mulL, bin_mulT, bin_mulS, cmp_eq, cmp_ne, cmp_lt, cmp_le, cmp_gt, cmp_ge, cmp_is, cmp_isnt, cmp_inS, cmp_ninS, eq_int, eq_str, ix_lst, ix_tup, tru_bl, tru_lst, tru_tup, tru_int, tru_non, non_non, non_int, non_str, non_bl, non_lst, non_tup, at_zero, at_one, at_two,
  isi_non, isi_bl, isi_int, isi_str, isi_lst, isi_tup, isi_dct, sub_tab, List.any_cons, List.any_nil, Bool.or_false, Bool.or_true, Bool.true_or, Bool.false_or, Bool.not_true, Bool.not_false,
  List.getElem?_cons_zero, List.getElem?_cons_succ, List.set_cons_zero, List.set_cons_succ, Bool.false_and, Bool.true_and, Bool.and_false, Bool.and_true, Bool.false_eq_true, if_true, if_false, ite_true, ite_false, List.length_cons, List.length_nil, List.length_map, true_and, and_true, ne_eq, not_true_eq_false, not_false_eq_true, reduceCtorEq, Nat.reduceAdd, Nat.zero_add, Int.cast_ofNat_Int, beq_self_eq_true, decide_true, decide_false])
theorem up_snoc {l : List It2} {c : List Nat} {i : Nat} (u : Up l c) (hlt : ∀ x ∈ c, x < i) (hv : ∀ h : c ≠ [], valI l (c.getLast h) < valI l i) : Up l (c ++ [i]) := by
  refine ⟨?_, ?_⟩
  · rw [List.pairwise_append]
    refine ⟨u.1, by simp, fun a ha b hb => ?_⟩
    have := List.mem_singleton.mp hb
    subst this
    exact hlt a ha
  · rw [List.pairwise_append]
    refine ⟨u.2, by simp, fun a ha b hb => ?_⟩
    have := List.mem_singleton.mp hb
    subst this
    have hne : c ≠ [] := fun z => by rw [z] at ha; cases ha
    have h2 := hv hne
    have h1 : valI l a ≤ valI l (c.getLast hne) := by
      obtain ⟨k, hk⟩ := List.getElem?_of_mem ha
      have hkl := lt_of_at hk
      rw [List.getElem?_eq_getElem hkl] at hk
      cases hk
      rw [List.getLast_eq_getElem]
      by_cases e : k = c.length - 1
      · subst e; exact Int.le_refl _
      · have := List.pairwise_iff_getElem.mp u.2 k (c.length - 1) hkl (by omega) (by omega)
        omega
    omega
theorem p__law_climb : ∀ ds QD ED, m__law_climb ds QD ED → c__law_climb (startE N__law_climb ds) { nx := fun _ => QD .non, rt := fun d _ => QD d } ED := by
  intro ds QD ED h
  unfold m__law_climb at h
  split at h
  · obtain ⟨l, rfl, ok, h⟩ := h
    have hl := ok.len
    show c__law_climb [.sh .gen, .sh (.lst (itsD l)), .no, .no, .no, .no] _ ED
    unfold c__law_climb
    walk_at "dl0"
    refine ⟨Nat.zero_le _, ?_⟩
    refine for_inv (k := 0) (fun i ρ => ∃ (c : List Nat) (c3 c4 c5 : Cell), ρ = [.sh .gen, .sh (.lst (itsD l)), .ow (.lst (intN c)) none, c3, c4, c5] ∧ Up l c ∧ (∀ x ∈ c, x < i) ∧ c.length ≤ i) ⟨[], _, _, _, rfl, ⟨List.Pairwise.nil, List.Pairwise.nil⟩, (fun x hx => by cases hx), Nat.le_refl _⟩ ?_ ?_
    · rintro i x ρ nx hx ⟨c, c3, c4, c5, rfl, up, hlt, hcl⟩ hn
      simp only [Nat.zero_add] at hn hlt hcl ⊢
      obtain ⟨v, w, r, hdr, rfl⟩ := enum_at hx
      obtain ⟨hil, hg, hr⟩ := drop_hd hdr
      have ev : valI l i = v := by unfold valI; rw [hg]
      have h1 : nx [.sh .gen, .sh (.lst (itsD l)), .ow (.lst (intN c)) none, .sh (.int i), .sh (.int v), .sh (.int w)] := hn _ ⟨c, _, _, _, rfl, up, fun x hx => by have := hlt x hx; omega, by omega⟩
      have h2 : (∀ h : c ≠ [], valI l (c.getLast h) < v) → nx [.sh .gen, .sh (.lst (itsD l)), .ow (.lst (intN c ++ [.int (i : Nat)])) none, .sh (.int i), .sh (.int v), .sh (.int w)] := fun hv =>
        hn _ ⟨c ++ [i], _, _, _, by unfold intN; rw [List.map_append]; rfl, up_snoc up hlt (fun h => by rw [ev]; exact hv h), fun x hx => by
          rcases List.mem_append.mp hx with hx | hx
          · have := hlt x hx; omega
          · have := List.mem_singleton.mp hx; omega, by rw [List.length_append, List.length_singleton]; omega⟩
      have hz : (intN c).length < sizeLine := by rw [intN_len]; exact Nat.lt_of_le_of_lt hcl (Nat.lt_of_lt_of_le hil (Nat.le_trans hl (by decide)))
      clear hn h
      walk_at "dl0"
      refine ⟨Nat.zero_le _, eq_nilL (intN_py c) ?_⟩
      by_cases hne : c = []
      · have h2 := h2 fun h => (h hne).elim
        have he : (intN c).isEmpty = true := by rw [hne]; rfl
        rw [he]
        walk_at "dl0"
        refine ⟨⟨by decide, by decide⟩, fun k _ _ => ?_⟩
        by_cases hk : (0 : Int) < k
        · have hk' := decide_eq_true hk
          walk_at "dl0"
          rw [hk']
          exact ⟨hz, h2⟩
        · have hk' := decide_eq_false hk
          walk_at "dl0"
          rw [hk']
          exact h1
      · have h2 : valI l (c.getLast hne) < v → _ := fun z => h2 fun _ => z
        have he : (intN c).isEmpty = false := by
          cases c with
          | nil => exact absurd rfl hne
          | cons a b => rfl
        rw [he]
        have hne2 : intN c ≠ [] := fun z => by rw [z] at he; cases he
        have gm : ∀ h2 : (c.map fun i : Nat => D.int (i : Nat)) ≠ [], (c.map fun i : Nat => D.int (i : Nat)).getLast h2 = .int (c.getLast hne : Nat) := fun h2 => by rw [List.getLast_map]
        have hg2 : (intN c).getLast hne2 = .int (c.getLast hne : Nat) := gm hne2
        have al := at_last (ds := intN c) (h := hne2)
        rw [hg2] at al
        have hlast := hlt _ (List.getLast_mem hne)
        show match atI (intN c) (-1) with | some d => _ | none => False
        rw [al]
        refine its_ix (E := ED) (.inl rfl) (show c.getLast hne < l.length by omega) ?_
        by_cases hv : valI l (c.getLast hne) < v
        · have hv' := decide_eq_true hv
          have h2 := h2 hv
          walk_at "dl0"
          rw [hv']
          walk_at "dl0"
          refine ⟨⟨by decide, by decide⟩, fun k _ _ => ?_⟩
          by_cases hk : (0 : Int) < k
          · have hk' := decide_eq_true hk
            walk_at "dl0"
            rw [hk']
            exact ⟨hz, h2⟩
          · have hk' := decide_eq_false hk
            walk_at "dl0"
            rw [hk']
            exact h1
        · have hv' := decide_eq_false hv
          walk_at "dl0"
          rw [hv']
          exact h1
    · rintro ρ ⟨c, c3, c4, c5, rfl, up, hlt, hcl⟩
      rw [Nat.zero_add, enumD_len, its_len] at hlt
      exact h c up hlt
  · exact h.elim

end DL.K16

namespace DL.K16
open PySem L2 DL.K13
local macro_rules | `(tactic| walk_at "dl") => `(tactic| simp only [ret, fail, bnd, frz, cC, cVar, bVar, cBin, cNeg, cNot, cAnd, cOr, cIf, vT, tCm, tCh, tTru, tNo, tAn, tOr', cNil, cCons, cTup, cLst, cIx, oNo, oIs, cSl, cCall, callD, cCallK, cB, sNil, sSeq, sDrop, sSet, sAsg, sPar, sRet, sRetN, sIf, sBrk, sCnt, sNo, sFor, sFrz, sApp, sPut, sSetU, uOf, uPop, uPopAt, isOwL, sAdopt,
  gNm, gTp, gsCons, gsNil, tYesD, cLc, iSeq, iRng, iEn, cIsi, cLRg, cBest, cSrtSet, cRev, iZp, cCallF, cCallKF, callF, sRetO, sRetF, tLend, frzE, cDct, prM, cJoin, cel, rgsM, len_lst, len_tup, len_dct, len_str, abs_int, list_lst, list_tup, tuple_lst, tuple_tup, items_lst, items_tup, items_str, enum_lst, enum_tup,
  bin_addI, bin_subI, bin_mulI, bin_divI, bin_modI, bin_powI, bin_addS, bin_addL, bin_addT, bin_mulL, bin_mulT, bin_mulS, cmp_eq, cmp_ne, cmp_lt, cmp_le, cmp_gt, cmp_ge, cmp_is, cmp_isnt, cmp_inS, cmp_ninS, eq_int, eq_str, ix_lst, ix_tup, tru_bl, tru_lst, tru_tup, tru_int, tru_non, non_non, non_int, non_str, non_bl, non_lst, non_tup, at_zero, at_one, at_two,
  isi_non, isi_bl, isi_int, isi_str, isi_lst, isi_tup, isi_dct, sub_tab, List.any_cons, List.any_nil, Bool.or_false, Bool.or_true, Bool.true_or, Bool.false_or, Bool.not_true, Bool.not_false,
  List.getElem?_cons_zero, List.getElem?_cons_succ, List.set_cons_zero, List.set_cons_succ, Bool.false_and, Bool.true_and, Bool.and_false, Bool.and_true, Bool.false_eq_true, if_true, if_false, ite_true, ite_false, List.length_cons, List.length_nil, List.length_map, true_and, and_true, ne_eq, not_true_eq_false, not_false_eq_true, reduceCtorEq, Nat.reduceAdd, Nat.zero_add, Int.cast_ofNat_Int, beq_self_eq_true, decide_true, decide_false, *])
local macro_rules | `(tactic| walk_at "dl0") => `(tactic| simp only [ret, fail, bnd, frz, cC, cVar, bVar, cBin, cNeg, cNot, cAnd, cOr, cIf, vT, tCm, tCh, tTru, tNo, tAn, tOr', cNil, cCons, cTup, cLst, cIx, oNo, oIs, cSl, cCall, callD, cCallK, cB, sNil, sSeq, sDrop, sSet, sAsg, sPar, sRet, sRetN, sIf, sBrk, sCnt, sNo, sFor, sFrz, sApp, sPut, sSetU, uOf, uPop, uPopAt, isOwL, sAdopt,
  gNm, gTp, gsCons, gsNil, tYesD, cLc, iSeq, iRng, iEn, cIsi, cLRg, cBest, cSrtSet, cRev, iZp, cCallF, cCallKF, callF, sRetO, sRetF, tLend, frzE, cDct, prM, cJoin, cel, rgsM, len_lst, len_tup, len_dct, len_str, abs_int, list_lst, list_tup, tuple_lst, tuple_tup, items_lst, items_tup, items_str, enum_lst, enum_tup,
  bin_addI, bin_subI, bin_mulI, bin_divI, bin_modI, bin_powI, bin_addS, bin_addL, bin_addT, bin_mulL, bin_mulT, bin_mulS, cmp_eq, cmp_ne, cmp_lt, cmp_le, cmp_gt, cmp_ge, cmp_is, cmp_isnt, cmp_inS, cmp_ninS, eq_int, eq_str, ix_lst, ix_tup, tru_bl, tru_lst, tru_tup, tru_int, tru_non, non_non, non_int, non_str, non_bl, non_lst, non_tup, at_zero, at_one, at_two,
  isi_non, isi_bl, isi_int, isi_str, isi_lst, isi_tup, isi_dct, sub_tab, List.any_cons, List.any_nil, Bool.or_false, Bool.or_true, Bool.true_or, Bool.false_or, Bool.not_true, Bool.not_false,
  List.getElem?_cons_zero, List.getElem?_cons_succ, List.set_cons_zero, List.set_cons_succ, Bool.false_and, Bool.true_and, Bool.and_false, Bool.and_true, Bool.false_eq_true, if_true, if_false, ite_true, ite_false, List.length_cons, List.length_nil, List.length_map, true_and, and_true, ne_eq, not_true_eq_false, not_false_eq_true, reduceCtorEq, Nat.reduceAdd, Nat.zero_add, Int.cast_ofNat_Int, beq_self_eq_true, decide_true, decide_false])
abbrev Gs := List (List Nat × Addr)
def ghs (gs : Gs) : Env := gs.map (fun g => Cell.ow (.lst (intN g.1)) (some g.2)) ++ List.replicate (200 - gs.length) .no
def rfs (gs : Gs) : List D := gs.map fun g => D.raw (.ref g.2)
theorem ghs_at {gs : Gs} {k : Nat} {f : List Nat} {p : Addr} (h : gs[k]? = some (f, p)) : (ghs gs)[k]? = some (.ow (.lst (intN f)) (some p)) := by
  unfold ghs
  rw [List.getElem?_append_left (by rw [List.length_map]; exact lt_of_at h), List.getElem?_map, h]
  rfl
theorem find_gh {ρ : Env} {gs : Gs} {k : Nat} {f : List Nat} {p : Addr} (hd : ρ.drop 9 = ghs gs) (nd : (gs.map fun g => g.2).Nodup) (h : gs[k]? = some (f, p)) : findG 9 ρ p = some (9 + k, .lst (intN f)) := by
  have hk := lt_of_at h
  have hkg : k < (ghs gs).length := by unfold ghs; rw [List.length_append, List.length_map]; omega
  have e3 := ghs_at h
  have e4 : ρ[9 + k]? = some (.ow (.lst (intN f)) (some p)) := by rw [← e3, ← hd, List.getElem?_drop]
  have e2 : (ρ.drop 9).findIdx? (fun c => match c with | .ow _ (some q) => decide (q = p) | _ => false) = some k := by
    rw [hd, List.findIdx?_eq_some_iff_getElem]
    refine ⟨hkg, ?_, ?_⟩
    · rw [List.getElem?_eq_getElem hkg] at e3
      rw [Option.some.inj e3]
      exact decide_eq_true rfl
    · intro j hj
      have hjl : j < gs.length := by omega
      have ej := ghs_at (gs := gs) (k := j) (f := gs[j].1) (p := gs[j].2) (List.getElem?_eq_getElem hjl)
      have hjg : j < (ghs gs).length := by omega
      rw [List.getElem?_eq_getElem hjg] at ej
      rw [Option.some.inj ej]
      show ¬ decide (gs[j].2 = p) = true
      rw [decide_eq_true_eq]
      intro e
      unfold List.Nodup at nd
      rw [List.pairwise_map] at nd
      have := List.pairwise_iff_getElem.mp nd j k hjl hk hj
      rw [List.getElem?_eq_getElem hk] at h
      rw [Option.some.inj h] at this
      exact this e
  unfold findG
  split
  · rename_i j e
    have ej : k = j := Option.some.inj (e2.symm.trans e)
    subst ej
    rw [e4]
    show (if p = p then _ else _) = _
    rw [if_pos rfl]
  · rename_i e
    have := e2.symm.trans e
    cases this
theorem deref_gh {ρ : Env} {gs : Gs} {k : Nat} {f : List Nat} {p : Addr} (hd : ρ.drop 9 = ghs gs) (nd : (gs.map fun g => g.2).Nodup) (h : gs[k]? = some (f, p)) : deref 9 ρ (.raw (.ref p)) = .lst (intN f) := by
  show (match findG 9 ρ p with | some (_, d) => d | none => .raw (.ref p)) = _
  rw [find_gh hd nd h]
theorem deref_lst {n : Nat} {ρ : Env} {xs : List D} : deref n ρ (.lst xs) = .lst xs := rfl
theorem deref_tup {n : Nat} {ρ : Env} {xs : List D} : deref n ρ (.tup xs) = .tup xs := rfl
theorem rfs_deref {ρ : Env} {gs : Gs} (hd : ρ.drop 9 = ghs gs) (nd : (gs.map fun g => g.2).Nodup) : (rfs gs).map (deref 9 ρ) = gs.map fun g => D.lst (intN g.1) := by
  unfold rfs
  rw [List.map_map]
  refine List.map_congr_left fun g hg => ?_
  obtain ⟨k, hk⟩ := List.getElem?_of_mem hg
  exact deref_gh (f := g.1) (p := g.2) hd nd hk
def unN : D → List Nat
  | .lst ds => ds.map fun d => match d with | .int i => i.toNat | _ => 0
  | _ => []
theorem unN_is (c : List Nat) : unN (.lst (intN c)) = c := by
  show (intN c).map (fun d => match d with | .int i => i.toNat | _ => 0) = c
  unfold intN
  rw [List.map_map]
  conv => rhs; rw [← List.map_id c]
  exact List.map_congr_left fun i _ => Int.toNat_natCast i
theorem rfs_at {gs : Gs} {k : Nat} {f : List Nat} {p : Addr} (h : gs[k]? = some (f, p)) {Q : D → Prop} {E : Xn → Prop} (q : Q (.raw (.ref p))) : ixM (.lst (rfs gs)) (.int (k : Nat)) Q E := by
  have hk := lt_of_at h
  have a : atI (rfs gs) (k : Int) = some (.raw (.ref p)) := by
    rw [at_nat (by unfold rfs; rw [List.length_map]; exact hk)]
    unfold rfs
    rw [List.getElem?_eq_getElem hk] at h
    rw [List.getElem_map, Option.some.inj h]
  show match atI (rfs gs) (k : Int) with | some d => Q d | none => False
  rw [a]; exact q
theorem last_ok {c : List Nat} (hne : c ≠ []) {Q : D → Prop} {E : Xn → Prop} (q : Q (.int (c.getLast hne : Nat))) : ixM (.lst (intN c)) (.int (-1)) Q E := by
  have hne2 : intN c ≠ [] := fun z => by cases c with | nil => exact hne rfl | cons a b => cases z
  have gm : ∀ h2 : (c.map fun i : Nat => D.int (i : Nat)) ≠ [], (c.map fun i : Nat => D.int (i : Nat)).getLast h2 = .int (c.getLast hne : Nat) := fun h2 => by rw [List.getLast_map]
  have hg2 : (intN c).getLast hne2 = .int (c.getLast hne : Nat) := gm hne2
  have al := at_last (ds := intN c) (h := hne2)
  rw [hg2] at al
  show match atI (intN c) (-1) with | some d => Q d | none => False
  rw [al]; exact q
theorem gh_park {gs : Gs} {f : List Nat} {p : Addr} (h : gs.length < 200) : (ghs gs).set gs.length (.ow (.lst (intN f)) (some p)) = ghs (gs ++ [(f, p)]) := by
  unfold ghs
  obtain ⟨m, hm⟩ : ∃ m, 200 - gs.length = m + 1 := ⟨200 - gs.length - 1, by omega⟩
  have hm2 : 200 - (gs ++ [(f, p)]).length = m := by rw [List.length_append, List.length_singleton]; omega
  rw [hm, hm2, List.set_append_right _ _ (by rw [List.length_map]; exact Nat.le_refl _), List.length_map, Nat.sub_self, List.replicate_succ, List.map_append, List.append_assoc]
  rfl
theorem gh_app {gs : Gs} {k : Nat} {f f' : List Nat} {p : Addr} (h : gs[k]? = some (f, p)) : (ghs gs).set k (.ow (.lst (intN f')) (some p)) = ghs (gs.set k (f', p)) := by
  unfold ghs
  rw [List.set_append_left _ _ (by rw [List.length_map]; exact lt_of_at h), List.length_set, List.map_set]
theorem set_snd {gs : Gs} {k : Nat} {f f' : List Nat} {p : Addr} (h : gs[k]? = some (f, p)) : (gs.set k (f', p)).map (fun g => g.2) = gs.map fun g => g.2 := by
  rw [List.map_set]
  refine List.ext_getElem? fun m => ?_
  rw [List.getElem?_set]
  split
  · rename_i e
    subst e
    rw [List.length_map, if_pos (lt_of_at h), List.getElem?_map, h]
    rfl
  · rfl
theorem set_rfs {gs : Gs} {k : Nat} {f f' : List Nat} {p : Addr} (h : gs[k]? = some (f, p)) : rfs (gs.set k (f', p)) = rfs gs := by
  have e : ∀ gs : Gs, rfs gs = (gs.map fun g => g.2).map fun a => D.raw (.ref a) := fun gs => by rw [List.map_map]; rfl
  rw [e, e, set_snd h]
structure PInv (l : List It2) (i : Nat) (gs : Gs) : Prop where
  nd : (gs.map fun g => g.2).Nodup
  ne : ∀ g ∈ gs, g.1 ≠ []
  up : ∀ g ∈ gs, g.1.Pairwise (· < ·)
  dn : ∀ g ∈ gs, g.1.Pairwise fun a b => valI l b ≤ valI l a
  lt : ∀ g ∈ gs, ∀ x ∈ g.1, x < i
  cv : ∀ x, x < i → ∃ g ∈ gs, x ∈ g.1
  len : gs.length ≤ i
theorem PInv.park {l : List It2} {i : Nat} {gs : Gs} {p : Addr} (P : PInv l i gs) (hp : ∀ g ∈ gs, g.2 ≠ p) : PInv l (i + 1) (gs ++ [([i], p)]) := by
  have cs : ∀ g ∈ gs ++ [([i], p)], g ∈ gs ∨ g = ([i], p) := fun g hg => by
    rcases List.mem_append.mp hg with h | h
    · exact .inl h
    · exact .inr (List.mem_singleton.mp h)
  refine ⟨?_, fun g hg => ?_, fun g hg => ?_, fun g hg => ?_, fun g hg x hx => ?_, fun x hx => ?_, by rw [List.length_append, List.length_singleton]; have := P.len; omega⟩
  · rw [List.map_append, List.nodup_append]
    refine ⟨P.nd, by simp, fun a ha b hb e => ?_⟩
    obtain ⟨g, hg, rfl⟩ := List.mem_map.mp ha
    have hb : b = p := by simpa using hb
    subst hb
    exact hp g hg e
  · rcases cs g hg with h | rfl
    · exact P.ne g h
    · exact fun z => by cases z
  · rcases cs g hg with h | rfl
    · exact P.up g h
    · exact List.pairwise_singleton _ _
  · rcases cs g hg with h | rfl
    · exact P.dn g h
    · exact List.pairwise_singleton _ _
  · rcases cs g hg with h | rfl
    · have := P.lt g h x hx; omega
    · have := List.mem_singleton.mp hx; omega
  · by_cases e : x = i
    · subst e
      exact ⟨_, List.mem_append_right _ (List.mem_singleton.mpr rfl), List.mem_singleton.mpr rfl⟩
    · obtain ⟨g, hg, h⟩ := P.cv x (by omega)
      exact ⟨g, List.mem_append_left _ hg, h⟩
theorem PInv.app {l : List It2} {i k : Nat} {gs : Gs} {f : List Nat} {p : Addr} (P : PInv l i gs) (h : gs[k]? = some (f, p)) (hne : f ≠ []) (hv : valI l i ≤ valI l (f.getLast hne)) : PInv l (i + 1) (gs.set k (f ++ [i], p)) := by
  have hm := List.mem_of_getElem? h
  have fup : f.Pairwise (· < ·) := P.up _ hm
  have fdn : f.Pairwise fun a b => valI l b ≤ valI l a := P.dn _ hm
  have flt : ∀ x ∈ f, x < i := P.lt _ hm
  have cs : ∀ g ∈ gs.set k (f ++ [i], p), g ∈ gs ∨ g = (f ++ [i], p) := fun g hg => List.mem_or_eq_of_mem_set hg
  have hset : (f ++ [i], p) ∈ gs.set k (f ++ [i], p) := List.mem_of_getElem? (i := k) (by rw [List.getElem?_set_self (lt_of_at h)])
  refine ⟨by rw [set_snd h]; exact P.nd, fun g hg => ?_, fun g hg => ?_, fun g hg => ?_, fun g hg x hx => ?_, fun x hx => ?_, by rw [List.length_set]; have := P.len; omega⟩
  · rcases cs g hg with h | rfl
    · exact P.ne g h
    · simp
  · rcases cs g hg with h | rfl
    · exact P.up g h
    · rw [List.pairwise_append]
      refine ⟨fup, by simp, fun a ha b hb => ?_⟩
      have := List.mem_singleton.mp hb
      subst this
      exact flt a ha
  · rcases cs g hg with h | rfl
    · exact P.dn g h
    · rw [List.pairwise_append]
      refine ⟨fdn, by simp, fun a ha b hb => ?_⟩
      have := List.mem_singleton.mp hb
      subst this
      have h1 : valI l (f.getLast hne) ≤ valI l a := by
        obtain ⟨m, hm⟩ := List.getElem?_of_mem ha
        have hml : m < f.length := lt_of_at hm
        rw [List.getElem?_eq_getElem hml] at hm
        cases hm
        rw [List.getLast_eq_getElem]
        by_cases e : m = f.length - 1
        · subst e; exact Int.le_refl _
        · exact List.pairwise_iff_getElem.mp fdn m (f.length - 1) hml (by omega) (by omega)
      omega
  · rcases cs g hg with h | rfl
    · have := P.lt g h x hx; omega
    · rcases List.mem_append.mp hx with hx | hx
      · have := flt x hx; omega
      · have := List.mem_singleton.mp hx; omega
  · by_cases e : x = i
    · subst e
      exact ⟨_, hset, List.mem_append_right _ (List.mem_singleton.mpr rfl)⟩
    · obtain ⟨g, hg, hx⟩ := P.cv x (by omega)
      obtain ⟨m, hm⟩ := List.getElem?_of_mem hg
      by_cases em : m = k
      · subst em
        rw [h] at hm
        cases hm
        exact ⟨_, hset, List.mem_append_left _ hx⟩
      · exact ⟨g, List.mem_of_getElem? (i := m) (by rw [List.getElem?_set_ne (Ne.symm em)]; exact hm), hx⟩
/-- the number of a fall -/
def numF (l : List It2) (f : List Nat) : Int := maxZ (f.map (wtI l))
theorem PInv.cov {l : List It2} {gs : Gs} (pos : Pos l) (hl : l.length ≤ 200) (P : PInv l l.length gs) : CovOk l (gs.map fun g => (g.1, numF l g.1)) := by
  have num : ∀ g ∈ gs, 1 ≤ numF l g.1 := fun g hg => by
    have hne := P.ne g hg
    have hx := P.lt g hg _ (List.getLast_mem hne)
    have h1 : wtI l (g.1.getLast hne) ≤ numF l g.1 := maxZ_ge (List.mem_map_of_mem (List.getLast_mem hne))
    have := wt_pos pos hx
    omega
  refine ⟨fun c hc => ?_, fun i hi => ?_, by rw [List.length_map]; have := P.len; omega⟩
  · obtain ⟨g, hg, rfl⟩ := List.mem_map.mp hc
    exact ⟨P.up g hg, P.lt g hg, num g hg, P.dn g hg⟩
  · obtain ⟨g, hg, hx⟩ := P.cv i hi
    have h1 : wtI l i ≤ numF l g.1 := maxZ_ge (List.mem_map_of_mem hx)
    have h2 : ∀ ns : List Int, (∀ x ∈ ns, 0 ≤ x) → 0 ≤ ns.sum ∧ ∀ x ∈ ns, x ≤ ns.sum := by
      intro ns
      induction ns with
      | nil => intro _; exact ⟨Int.le_refl _, fun x hx => by cases hx⟩
      | cons n ns ih =>
        intro hn
        obtain ⟨i1, i2⟩ := ih fun x hx => hn x (List.mem_cons_of_mem _ hx)
        have n0 := hn n List.mem_cons_self
        rw [List.sum_cons]
        refine ⟨by omega, fun x hx => ?_⟩
        rcases List.mem_cons.mp hx with rfl | hx
        · omega
        · have := i2 x hx; omega
    have h3 := (h2 (((gs.map fun g => (g.1, numF l g.1)).filter fun c => decide (i ∈ c.1)).map fun c => c.2) (fun x hx => by
      obtain ⟨c, hc, rfl⟩ := List.mem_map.mp hx
      obtain ⟨g, hg, rfl⟩ := List.mem_map.mp (List.mem_filter.mp hc).1
      have := num g hg
      show 0 ≤ numF l g.1
      omega)).2 (numF l g.1) (List.mem_map.mpr ⟨(g.1, numF l g.1), List.mem_filter.mpr ⟨List.mem_map.mpr ⟨g, hg, rfl⟩, decide_eq_true hx⟩, rfl⟩)
    omega
def lastV (l : List It2) (gs : Gs) (k : Nat) : Int := match gs[k]? with
  | some g => valI l (g.1.getLastD 0)
  | none => 0
theorem num_ok {l : List It2} (pos : Pos l) {f : List Nat} (hne : f ≠ []) (hlt : ∀ x ∈ f, x < l.length) {Q : D × Bool → Prop} {E : Xn → Prop} (q : Q (.int (numF l f), false)) : bestsM true [.lst ((f.map (wtI l)).map .int)] Q E := by
  cases f with
  | nil => exact absurd rfl hne
  | cons a f =>
    show bestI true ((wtI l a :: f.map (wtI l)).map .int) Q E
    unfold bestI
    rw [intsD_map]
    show Q (.int (topI (wtI l a) (f.map (wtI l))), false)
    rw [foldl_top]
    have h1 := wt_pos pos (hlt a List.mem_cons_self)
    have : numF l (a :: f) = (f.map (wtI l)).foldl max (wtI l a) := by
      unfold numF maxZ
      rw [List.map_cons, List.foldl_cons, show max (0 : Int) (wtI l a) = wtI l a by omega]
    rw [← this]
    exact q
theorem wipe_gh {c0 c1 c2 c3 c4 c5 c6 c7 c8 : Cell} {t : Env} : ∀ js : List Nat, (∀ j ∈ js, 9 ≤ j) → ∃ t', wipeE (c0 :: c1 :: c2 :: c3 :: c4 :: c5 :: c6 :: c7 :: c8 :: t) js = c0 :: c1 :: c2 :: c3 :: c4 :: c5 :: c6 :: c7 :: c8 :: t'
  | [], _ => ⟨_, rfl⟩
  | j :: js, h => by
    obtain ⟨t', e⟩ := wipe_gh js fun z hz => h z (List.mem_cons_of_mem _ hz)
    obtain ⟨m, hm⟩ : ∃ m, j = m + 9 := ⟨j - 9, by have := h j List.mem_cons_self; omega⟩
    subst hm
    show ∃ t2, (wipeE _ js).set (m + 9) .no = _
    rw [e]
    exact ⟨_, rfl⟩
theorem p__law_piled : ∀ ds QD ED, m__law_piled ds QD ED → c__law_piled (startE N__law_piled ds) { nx := fun _ => QD .non, rt := fun d _ => QD d } ED := by
  intro ds QD ED h
  unfold m__law_piled at h
  split at h
  · obtain ⟨l, rfl, ok, hl, h⟩ := h
    have pos := ok.pos
    show c__law_piled (.sh .gen :: .sh (.lst (itsD l)) :: .no :: .no :: .no :: .no :: .no :: .no :: .no :: ghs []) _ ED
    unfold c__law_piled sPark sAppG sDeep
    walk_at "dl0"
    refine ⟨Nat.zero_le _, ?_⟩
    refine for_inv (k := 0) (fun i ρ => ∃ (gs : Gs) (c3 c4 c5 c6 c7 c8 : Cell), ρ = .sh .gen :: .sh (.lst (itsD l)) :: .ow (.lst (rfs gs)) none :: c3 :: c4 :: c5 :: c6 :: c7 :: c8 :: ghs gs ∧ PInv l i gs)
      ⟨[], _, _, _, _, _, _, rfl, List.Pairwise.nil, (fun g hg => by cases hg), (fun g hg => by cases hg), (fun g hg => by cases hg), (fun g hg => by cases hg), (fun x hx => by omega), Nat.le_refl _⟩ ?_ ?_
    · rintro i x ρ nx hx ⟨gs, c3, c4, c5, c6, c7, c8, rfl, P⟩ hn
      simp only [Nat.zero_add] at hn P ⊢
      obtain ⟨v, w, r, hdr, rfl⟩ := enum_at hx
      obtain ⟨hil, hg, hr⟩ := drop_hd hdr
      have ev : valI l i = v := by unfold valI; rw [hg]
      have gl := P.len
      have rl : (rfs gs).length = gs.length := by unfold rfs; rw [List.length_map]
      walk_at "dl0"
      rw [rl]
      refine (show _ ∧ _ from ⟨⟨by omega, by omega⟩, ?_⟩)
      refine (show _ ∧ _ from ⟨by rw [upto_len]; exact Nat.le_trans (show (gs.length : Int).toNat ≤ 250 by omega) (by decide), ?_⟩)
      rw [Int.toNat_natCast]
      refine lc_fun (fun x => .sh .gen :: .sh (.lst (itsD l)) :: .ow (.lst (rfs gs)) none :: .sh (.int i) :: .sh (.int v) :: .sh (.int w) :: c6 :: .sh x :: c8 :: ghs gs) (fun x => match x with | .int o => decide (v < lastV l gs o.toNat) | _ => false) (fun x => x)
        (fun x _ Q q => q) (fun x hx Q q => ?_) (fun x hx _ Q q => q) ?_
      · obtain ⟨o, ho, rfl⟩ := upto_all hx
        have hgo : gs[o]? = some (gs[o].1, gs[o].2) := List.getElem?_eq_getElem ho
        generalize gs[o] = g at hgo
        obtain ⟨f, p⟩ := g
        have hm := List.mem_of_getElem? hgo
        have hne : f ≠ [] := P.ne _ hm
        have hlt := P.lt _ hm _ (List.getLast_mem hne)
        have q : Q (decide (v < lastV l gs o)) := q
        have elast : lastV l gs o = valI l (f.getLast hne) := by
          unfold lastV
          rw [hgo]
          show valI l (f.getLastD 0) = _
          rw [List.getLastD_eq_getLast?, List.getLast?_eq_some_getLast hne]
          rfl
        rw [elast] at q
        unfold tCm cIxG
        walk_at "dl0"
        simp only [deref_lst, deref_tup]
        refine rfs_at (E := ED) hgo ?_
        rw [deref_gh (f := f) rfl P.nd hgo]
        walk_at "dl0"
        refine last_ok (E := ED) hne ?_
        refine its_ix (E := ED) (.inl rfl) (show f.getLast hne < l.length by have : f.getLast hne < i := hlt; omega) ?_
        exact q
      · generalize hF : ((upto 0 1 gs.length).filter fun x => match x with | .int o => decide (v < lastV l gs o.toNat) | _ => false) = F
        rw [List.map_id']
        have memF : ∀ d ∈ F, ∃ o : Nat, d = .int (o : Nat) ∧ o < gs.length ∧ v < lastV l gs o := fun d hd => by
          rw [← hF] at hd
          obtain ⟨h1, h2⟩ := List.mem_filter.mp hd
          obtain ⟨o, ho, rfl⟩ := upto_all h1
          exact ⟨o, rfl, ho, of_decide_eq_true h2⟩
        have lenF : F.length ≤ 200 := by
          rw [← hF]
          exact Nat.le_trans (List.length_filter_le _ _) (by rw [upto_len]; omega)
        have pyF : pyOk F := fun d hd => by
          obtain ⟨o, rfl, _⟩ := memF d hd
          exact ⟨_, rfl, rfl, Nat.zero_le _⟩
        clear hF
        have park : ∀ p : Addr, (∀ (k : Nat) (d : D) (q : Addr), (.sh .gen :: .sh (.lst (itsD l)) :: .ow (.lst (rfs gs)) none :: .sh (.int i) :: .sh (.int v) :: .sh (.int w) :: .sh (.lst F) :: c7 :: c8 :: ghs gs : Env)[k]? = some (.ow d (some q)) → q ≠ p) →
            nx (.sh .gen :: .sh (.lst (itsD l)) :: .ow (.lst (rfs gs ++ [.raw (.ref p)])) none :: .sh (.int i) :: .sh (.int v) :: .sh (.int w) :: .sh (.lst F) :: c7 :: c8 :: (ghs gs).set gs.length (.ow (.lst [.int (i : Nat)]) (some p))) := fun p hp => by
          have P2 : PInv l (i + 1) (gs ++ [([i], p)]) := P.park (p := p) fun g hg e => by
            obtain ⟨m, hm⟩ := List.getElem?_of_mem hg
            have := ghs_at (gs := gs) (k := m) (f := g.1) (p := g.2) hm
            exact hp (m + 9) _ g.2 this e
          have e1 := gh_park (gs := gs) (f := [i]) (p := p) (by omega)
          have e2 : rfs (gs ++ [([i], p)]) = rfs gs ++ [.raw (.ref p)] := by
            unfold rfs
            rw [List.map_append]
            rfl
          have e3 : intN [i] = [.int (i : Nat)] := rfl
          rw [← e3, e1, ← e2]
          exact hn _ ⟨_, _, _, _, _, _, _, rfl, P2⟩
        have hfree : (ghs gs)[gs.length]? = some .no := by
          unfold ghs
          rw [List.getElem?_append_right (by rw [List.length_map]; exact Nat.le_refl _), List.length_map, Nat.sub_self, List.getElem?_replicate, if_pos (by omega)]
        have app : ∀ (o : Nat) (f : List Nat) (p : Addr), gs[o]? = some (f, p) → v < lastV l gs o → nx (.sh .gen :: .sh (.lst (itsD l)) :: .ow (.lst (rfs gs)) none :: .sh (.int i) :: .sh (.int v) :: .sh (.int w) :: .sh (.lst F) :: c7 :: .sh (.raw (.ref p)) :: (ghs gs).set o (.ow (.lst (intN f ++ [.int (i : Nat)])) (some p))) := fun o f p hgo hv => by
          have hne : f ≠ [] := P.ne _ (List.mem_of_getElem? hgo)
          have elast : lastV l gs o = valI l (f.getLast hne) := by
            unfold lastV
            rw [hgo]
            show valI l (f.getLastD 0) = _
            rw [List.getLastD_eq_getLast?, List.getLast?_eq_some_getLast hne]
            rfl
          have P2 : PInv l (i + 1) (gs.set o (f ++ [i], p)) := P.app hgo hne (by rw [ev, ← elast]; omega)
          have e1 := gh_app (gs := gs) (f' := f ++ [i]) hgo
          have e2 := set_rfs (f' := f ++ [i]) hgo
          have e3 : intN (f ++ [i]) = intN f ++ [.int (i : Nat)] := by unfold intN; rw [List.map_append]; rfl
          rw [← e3, e1, ← e2]
          exact hn _ ⟨_, _, _, _, _, _, _, rfl, P2⟩
        clear hn h
        refine ⟨Nat.zero_le _, eq_nilL pyF ?_⟩
        have hsz : gs.length < sizeLine := Nat.lt_of_le_of_lt (show gs.length ≤ 200 by omega) (by decide)
        cases F with
        | nil =>
          refine (show _ ∧ _ from ⟨by decide, ?_⟩)
          exact ⟨by decide, gs.length + 9, by omega, hfree, fun p hp => ⟨hsz, park p hp⟩⟩
        | cons d F =>
          rw [show (d :: F).isEmpty = false from rfl]
          walk_at "dl0"
          refine ⟨⟨by decide, by decide⟩, fun k _ _ => ?_⟩
          by_cases hk : k = 0
          · subst hk
            refine (show _ ∧ _ from ⟨by decide, ?_⟩)
            exact ⟨by decide, gs.length + 9, by omega, hfree, fun p hp => ⟨hsz, park p hp⟩⟩
          · have hk' : (k == 0) = false := by simpa using hk
            walk_at "dl0"
            rw [hk']
            unfold cIxG
            walk_at "dl0"
            refine ⟨⟨by simp, Nat.le_trans lenF (by decide)⟩, fun d' hd' => ?_⟩
            obtain ⟨o, rfl, ho, hv⟩ := memF d' hd'
            have hgo : gs[o]? = some (gs[o].1, gs[o].2) := List.getElem?_eq_getElem ho
            generalize gs[o] = g at hgo
            obtain ⟨f, p⟩ := g
            have fl := up_len l.length f (P.up _ (List.mem_of_getElem? hgo)) fun x hx => by have := P.lt _ (List.mem_of_getElem? hgo) x hx; omega
            rw [deref_lst]
            refine rfs_at (E := ED) hgo ?_
            refine ⟨p, 9 + o, intN f, rfl, find_gh rfl P.nd hgo, by rw [intN_len]; exact Nat.lt_of_le_of_lt (show f.length ≤ 200 by omega) (by decide), ?_⟩
            rw [Nat.add_comm 9 o]
            exact app o f p hgo hv
    · rintro ρ ⟨gs, c3, c4, c5, c6, c7, c8, rfl, P⟩
      rw [Nat.zero_add, enumD_len, its_len] at P
      refine (show ∃ _ _, _ from ⟨rfs gs, none, by decide, rfl, ?_⟩)
      rw [rfs_deref rfl P.nd]
      obtain ⟨t', et⟩ := wipe_gh (c0 := .sh .gen) (c1 := .sh (.lst (itsD l))) (c2 := .ow (.lst (rfs gs)) none) (c3 := c3) (c4 := c4) (c5 := c5) (c6 := c6) (c7 := c7) (c8 := c8) (t := ghs gs) (ghL 9 (.sh .gen :: .sh (.lst (itsD l)) :: .ow (.lst (rfs gs)) none :: c3 :: c4 :: c5 :: c6 :: c7 :: c8 :: ghs gs)) (fun j hj => by
        unfold ghL at hj
        obtain ⟨m, _, rfl⟩ := List.mem_map.mp hj
        omega)
      rw [et]
      walk_at "dl0"
      refine ⟨by rw [sizeLine_eq]; have := P.len; omega, ?_⟩
      refine lc_fun (fun x => .sh .gen :: .sh (.lst (itsD l)) :: .sh (.lst (gs.map fun g : List Nat × Addr => D.lst (intN g.1))) :: c3 :: c4 :: c5 :: c6 :: c7 :: .sh x :: t') (fun _ => true) (fun x => covD (unN x, numF l (unN x)))
        (fun x _ Q q => q) (fun x hx Q q => q) (fun x hx _ Q q => ?_) ?_
      · obtain ⟨g, hg, rfl⟩ := List.mem_map.mp hx
        have hlt := P.lt g hg
        have hne := P.ne g hg
        have hup := up_len l.length g.1 (P.up g hg) hlt
        rw [unN_is] at q
        walk_at "dl0"
        refine ⟨by rw [intN_len, sizeLine_eq]; omega, ?_⟩
        refine lc_at (.inl rfl) hlt (f := wtI l) (fun i hi Q q => ?_) ?_
        · show ixM (.lst (itsD l)) (.int (i : Nat)) _ ED
          refine its_ix (E := ED) (.inl rfl) hi ?_
          exact q
        · refine num_ok pos hne hlt ?_
          exact ⟨by decide, q⟩
      · rw [List.filter_eq_self.mpr fun _ _ => rfl, List.map_map]
        have := h _ (P.cov pos hl)
        rw [List.map_map] at this
        have e : gs.map ((fun x => covD (unN x, numF l (unN x))) ∘ fun g => D.lst (intN g.1)) = gs.map (covD ∘ fun g => (g.1, numF l g.1)) := List.map_congr_left fun g _ => by
          show covD (unN (.lst (intN g.1)), numF l (unN (.lst (intN g.1)))) = _
          rw [unN_is]; rfl
        rw [e]
        exact this
  · exact h.elim

end DL.K16

namespace DL.K16
open PySem L2 DL.K13
local macro_rules | `(tactic| walk_at "dl") => `(tactic| simp only [ret, fail, bnd, frz, cC, cVar, bVar, cBin, cNeg, cNot, cAnd, cOr, cIf, vT, tCm, tCh, tTru, tNo, tAn, tOr', cNil, cCons, cTup, cLst, cIx, oNo, oIs, cSl, cCall, callD, cCallK, cB, sNil, sSeq, sDrop, sSet, sAsg, sPar, sRet, sRetN, sIf, sBrk, sCnt, sNo, sFor, sFrz, sApp, sPut, sSetU, uOf, uPop, uPopAt, isOwL, sAdopt,
  gNm, gTp, gsCons, gsNil, tYesD, cLc, iSeq, iRng, iEn, cIsi, cLRg, cBest, cSrtSet, cRev, iZp, cCallF, cCallKF, callF, sRetO, sRetF, tLend, frzE, cDct, prM, cJoin, cel, rgsM, len_lst, len_tup, len_dct, len_str, abs_int, list_lst, list_tup, tuple_lst, tuple_tup, items_lst, items_tup, items_str, enum_lst, enum_tup,
  bin_addI, bin_subI, bin_mulI, bin_divI, bin_modI, bin_powI, bin_addS, bin_addL, bin_addT, bin_mulL, bin_mulT, bin_mulS, cmp_eq, cmp_ne, cmp_lt, cmp_le, cmp_gt, cmp_ge, cmp_is, cmp_isnt, cmp_inS, cmp_ninS, eq_int, eq_str, ix_lst, ix_tup, tru_bl, tru_lst, tru_tup, tru_int, tru_non, non_non, non_int, non_str, non_bl, non_lst, non_tup, at_zero, at_one, at_two,
  isi_non, isi_bl, isi_int, isi_str, isi_lst, isi_tup, isi_dct, sub_tab, List.any_cons, List.any_nil, Bool.or_false, Bool.or_true, Bool.true_or, Bool.false_or, Bool.not_true, Bool.not_false,
  List.getElem?_cons_zero, List.getElem?_cons_succ, List.set_cons_zero, List.set_cons_succ, Bool.false_and, Bool.true_and, Bool.and_false, Bool.and_true, Bool.false_eq_true, if_true, if_false, ite_true, ite_false, List.length_cons, List.length_nil, List.length_map, true_and, and_true, ne_eq, not_true_eq_false, not_false_eq_true, reduceCtorEq, Nat.reduceAdd, Nat.zero_add, Int.cast_ofNat_Int, beq_self_eq_true, decide_true, decide_false, *])
local macro_rules | `(tactic| walk_at "dl0") => `(tactic| simp only [ret, fail, bnd, frz, cC, cVar, bVar, cBin, cNeg, cNot, cAnd, cOr, cIf, vT, tCm, tCh, tTru, tNo, tAn, tOr', cNil, cCons, cTup, cLst, cIx, oNo, oIs, cSl, cCall, callD, cCallK, cB, sNil, sSeq, sDrop, sSet, sAsg, sPar, sRet, sRetN, sIf, sBrk, sCnt, sNo, sFor, sFrz, sApp, sPut, sSetU, uOf, uPop, uPopAt, isOwL, sAdopt,
  gNm, gTp, gsCons, gsNil, tYesD, cLc, iSeq, iRng, iEn, cIsi, cLRg, cBest, cSrtSet, cRev, iZp, cCallF, cCallKF, callF, sRetO, sRetF, tLend, frzE, cDct, prM, cJoin, cel, rgsM, len_lst, len_tup, len_dct, len_str, abs_int, list_lst, list_tup, tuple_lst, tuple_tup, items_lst, items_tup, items_str, enum_lst, enum_tup,
  bin_addI, bin_subI, bin_mulI, bin_divI, bin_modI, bin_powI, bin_addS, bin_addL, bin_addT, bin_mulL, bin_mulT, bin_mulS, cmp_eq, cmp_ne, cmp_lt, cmp_le, cmp_gt, cmp_ge, cmp_is, cmp_isnt, cmp_inS, cmp_ninS, eq_int, eq_str, ix_lst, ix_tup, tru_bl, tru_lst, tru_tup, tru_int, tru_non, non_non, non_int, non_str, non_bl, non_lst, non_tup, at_zero, at_one, at_two,
  isi_non, isi_bl, isi_int, isi_str, isi_lst, isi_tup, isi_dct, sub_tab, List.any_cons, List.any_nil, Bool.or_false, Bool.or_true, Bool.true_or, Bool.false_or, Bool.not_true, Bool.not_false,
  List.getElem?_cons_zero, List.getElem?_cons_succ, List.set_cons_zero, List.set_cons_succ, Bool.false_and, Bool.true_and, Bool.and_false, Bool.and_true, Bool.false_eq_true, if_true, if_false, ite_true, ite_false, List.length_cons, List.length_nil, List.length_map, true_and, and_true, ne_eq, not_true_eq_false, not_false_eq_true, reduceCtorEq, Nat.reduceAdd, Nat.zero_add, Int.cast_ofNat_Int, beq_self_eq_true, decide_true, decide_false])
theorem pw_rel {R : Nat → Nat → Prop} {c : List Nat} (h : c.Pairwise (· < ·)) (hR : c.Pairwise R) {x y : Nat} (hx : x ∈ c) (hy : y ∈ c) (hxy : x < y) : R x y := by
  obtain ⟨i, hi⟩ := List.getElem?_of_mem hx
  obtain ⟨j, hj⟩ := List.getElem?_of_mem hy
  have h1 := lt_of_at hi
  have h2 := lt_of_at hj
  rw [List.getElem?_eq_getElem h1] at hi
  rw [List.getElem?_eq_getElem h2] at hj
  cases hi; cases hj
  by_cases e : i < j
  · exact List.pairwise_iff_getElem.mp hR i j h1 h2 e
  · by_cases e2 : i = j
    · subst e2; omega
    · have := List.pairwise_iff_getElem.mp h j i h2 h1 (by omega); omega
theorem one_hit {l : List It2} {cv : List Nat × Int} (f : FallOk l cv) : ∀ c : List Nat, Up l c → (c.map fun i => if i ∈ cv.1 then cv.2 else 0).sum ≤ cv.2
  | [], _ => by have := f.num; show (0 : Int) ≤ cv.2; omega
  | x :: r, u => by
    have ur : Up l r := ⟨(List.pairwise_cons.mp u.1).2, (List.pairwise_cons.mp u.2).2⟩
    rw [List.map_cons, List.sum_cons]
    split
    · rename_i hx
      have z : (r.map fun i => if i ∈ cv.1 then cv.2 else 0) = r.map fun _ => (0 : Int) := List.map_congr_left fun y hy => by
        rw [if_neg]
        intro hy2
        have h1 := (List.pairwise_cons.mp u.1).1 y hy
        have h2 := (List.pairwise_cons.mp u.2).1 y hy
        have := pw_rel f.up f.down hx hy2 h1
        omega
      have z2 : ∀ r : List Nat, (r.map fun _ => (0 : Int)).sum = 0 := by
        intro r
        induction r with
        | nil => rfl
        | cons a r ih => rw [List.map_cons, List.sum_cons, ih]; rfl
      rw [z, z2]
      omega
    · have := one_hit f r ur
      omega
theorem hits {l : List It2} {c : List Nat} (u : Up l c) : ∀ cov : List (List Nat × Int), (∀ cv ∈ cov, FallOk l cv) → (c.map fun i => ((cov.filter fun cv => decide (i ∈ cv.1)).map fun cv => cv.2).sum).sum ≤ (cov.map fun cv => cv.2).sum
  | [], _ => by
    have z2 : ∀ r : List Nat, (r.map fun _ => (0 : Int)).sum = 0 := by
      intro r
      induction r with
      | nil => rfl
      | cons a r ih => rw [List.map_cons, List.sum_cons, ih]; rfl
    have := z2 c
    show (c.map fun _ => (0 : Int)).sum ≤ 0
    omega
  | cv :: cov, h => by
    have ih := hits u cov fun x hx => h x (List.mem_cons_of_mem _ hx)
    have o := one_hit (h cv List.mem_cons_self) c u
    rw [List.map_cons, List.sum_cons]
    have e : ∀ c : List Nat, (c.map fun i => (((cv :: cov).filter fun cv => decide (i ∈ cv.1)).map fun cv => cv.2).sum).sum = (c.map fun i => if i ∈ cv.1 then cv.2 else 0).sum + (c.map fun i => ((cov.filter fun cv => decide (i ∈ cv.1)).map fun cv => cv.2).sum).sum := by
      intro c
      induction c with
      | nil => rfl
      | cons i c ih =>
        simp only [List.map_cons, List.sum_cons] at ih ⊢
        rw [ih, List.filter_cons]
        by_cases hi : i ∈ cv.1
        · rw [if_pos (decide_eq_true hi), if_pos hi, List.map_cons, List.sum_cons]; omega
        · rw [if_neg (by rw [decide_eq_true_eq]; exact hi), if_neg hi]; omega
    rw [e]
    omega
theorem wsum_le {l : List It2} {c : List Nat} {cov : List (List Nat × Int)} (u : Up l c) (hlt : ∀ x ∈ c, x < l.length) (co : CovOk l cov) : wsum l c ≤ (cov.map fun cv => cv.2).sum := by
  refine Int.le_trans ?_ (hits u cov co.falls)
  unfold wsum
  have : ∀ c : List Nat, (∀ x ∈ c, x < l.length) → (c.map (wtI l)).sum ≤ (c.map fun i => ((cov.filter fun cv => decide (i ∈ cv.1)).map fun cv => cv.2).sum).sum := by
    intro c
    induction c with
    | nil => intro _; exact Int.le_refl _
    | cons i c ih =>
      intro h
      have h1 := co.cvr i (h i List.mem_cons_self)
      have h2 := ih fun x hx => h x (List.mem_cons_of_mem _ hx)
      rw [List.map_cons, List.sum_cons, List.map_cons, List.sum_cons]
      omega
  exact this c hlt
theorem wsum_snoc (l : List It2) (c : List Nat) (i : Nat) : wsum l (c ++ [i]) = wsum l c + wtI l i := by
  unfold wsum
  rw [List.map_append, List.sum_append]
  simp
theorem T_ends {l : List It2} : ∀ n i, i < n → i < l.length → ∃ c, Up l c ∧ (∀ x ∈ c, x ≤ i) ∧ (∃ h : c ≠ [], c.getLast h = i) ∧ wsum l c = (T l).getD i 0
  | 0, i, h, _ => by omega
  | n + 1, i, h, hi => by
    rw [T_at l hi]
    rcases maxZ_mem (ns := ((List.range i).filter fun o => decide (valI l o < valI l i)).map fun o => (T l).getD o 0) with e | e
    · rw [e]
      refine ⟨[i], ⟨List.pairwise_singleton _ _, List.pairwise_singleton _ _⟩, fun x hx => by have := List.mem_singleton.mp hx; omega, ⟨by simp, rfl⟩, ?_⟩
      unfold wsum
      simp
    · obtain ⟨o, ho, eo⟩ := List.mem_map.mp e
      obtain ⟨h1, h2⟩ := List.mem_filter.mp ho
      rw [List.mem_range] at h1
      have h2 := of_decide_eq_true h2
      obtain ⟨c, u, hle, ⟨hne, hl⟩, hs⟩ := T_ends (l := l) n o (by omega) (by omega)
      refine ⟨c ++ [i], up_snoc u (fun x hx => by have := hle x hx; omega) (fun h => by rw [hl]; exact h2), fun x hx => ?_, ⟨by simp, by simp⟩, ?_⟩
      · rcases List.mem_append.mp hx with hx | hx
        · have := hle x hx; omega
        · have := List.mem_singleton.mp hx; omega
      · rw [wsum_snoc, hs, eo]
        omega
theorem covL_ok {l : List It2} (pos : Pos l) (hc : (covL l).length ≤ 1000) : CovOk l (covL l) := ⟨fun c hc => cov_fall pos hc, fun i hi => cov_covers pos hi, hc⟩
theorem up_le {l : List It2} {c : List Nat} (pos : Pos l) (u : Up l c) (hlt : ∀ x ∈ c, x < l.length) : wsum l c ≤ mx none l :=
  (feas_le (feas_of l 0 none c rfl u (fun x hx => ⟨Nat.zero_le _, hlt x hx⟩) fun _ _ => rfl) pos).1
theorem G_sum (l : List It2) : mx none l = wsum l (G none 0 l) := (of_feas (l := l) (G_feas l none 0) rfl).2.2.2
theorem G_top {l : List It2} (pos : Pos l) (hc : (covL l).length ≤ 1000) : wsum l (G none 0 l) = maxZ (T l) := by
  have h1 := wsum_le (G_up l).1 (G_up l).2 (covL_ok pos hc)
  rw [cov_sum pos] at h1
  have h2 : maxZ (T l) ≤ wsum l (G none 0 l) := by
    rw [← G_sum]
    rcases maxZ_mem (ns := T l) with e | e
    · rw [e]; exact mx_nn l none pos
    · obtain ⟨i, hi⟩ := List.getElem?_of_mem e
      have hil := lt_of_at hi
      rw [T_len] at hil
      obtain ⟨c, u, hle, _, hs⟩ := T_ends (l := l) (i + 1) i (Nat.lt_succ_self i) hil
      have := up_le pos u fun x hx => by have := hle x hx; omega
      rw [hs, List.getD_eq_getElem?_getD, hi] at this
      exact this
  omega
def ones (l : List It2) : List (List Nat × Int) := (List.range l.length).map fun i => ([i], wtI l i)
theorem ones_ok {l : List It2} (pos : Pos l) (hl : l.length ≤ 250) : CovOk l (ones l) := by
  refine ⟨fun c hc => ?_, fun i hi => ?_, by unfold ones; rw [List.length_map, List.length_range]; omega⟩
  · obtain ⟨i, hi, rfl⟩ := List.mem_map.mp hc
    rw [List.mem_range] at hi
    exact ⟨List.pairwise_singleton _ _, fun x hx => by have := List.mem_singleton.mp hx; omega, wt_pos pos hi, List.pairwise_singleton _ _⟩
  · have h2 : ∀ ns : List Int, (∀ x ∈ ns, 0 ≤ x) → 0 ≤ ns.sum ∧ ∀ x ∈ ns, x ≤ ns.sum := by
      intro ns
      induction ns with
      | nil => intro _; exact ⟨Int.le_refl _, fun x hx => by cases hx⟩
      | cons n ns ih =>
        intro hn
        obtain ⟨i1, i2⟩ := ih fun x hx => hn x (List.mem_cons_of_mem _ hx)
        have n0 := hn n List.mem_cons_self
        rw [List.sum_cons]
        refine ⟨by omega, fun x hx => ?_⟩
        rcases List.mem_cons.mp hx with rfl | hx
        · omega
        · have := i2 x hx; omega
    refine (h2 _ fun x hx => ?_).2 _ (List.mem_map.mpr ⟨([i], wtI l i), List.mem_filter.mpr ⟨List.mem_map.mpr ⟨i, List.mem_range.mpr hi, rfl⟩, decide_eq_true (List.mem_singleton.mpr rfl)⟩, rfl⟩)
    obtain ⟨c, hc, rfl⟩ := List.mem_map.mp hx
    obtain ⟨j, hj, rfl⟩ := List.mem_map.mp (List.mem_filter.mp hc).1
    rw [List.mem_range] at hj
    have := wt_pos pos hj
    show 0 ≤ wtI l j
    omega
theorem sums_ok {cov : List (List Nat × Int)} {a0 a1 a2 a3 a4 a5 a6 a9 a10 a11 a12 : Cell} {Q : List D → Prop} {E : Xn → Prop} (q : Q ((cov.map fun c => c.2).map D.int)) :
    lcM (gTp 2 (gsCons (gNm 7) (gsCons (gNm 8) gsNil))) tYesD (frz (cVar 8)) [a0, a1, a2, a3, a4, a5, a6, .no, .no, a9, a10, a11, a12] (cov.map covD) Q E := by
  refine lc_fun (fun x' => [a0, a1, a2, a3, a4, a5, a6, .sh (.tup (intN (covI x').1)), .sh (.int (covI x').2), a9, a10, a11, a12]) (fun _ => true) (fun x => .int (covI x).2)
    (fun x' hx' Q q => ?_) (fun x' _ Q q => q) (fun x' hx' _ Q q => q) ?_
  · obtain ⟨c, _, rfl⟩ := List.mem_map.mp hx'
    rw [covI_is] at q
    exact ⟨rfl, q⟩
  rw [List.filter_eq_self.mpr fun _ _ => rfl]
  have es : (cov.map covD).map (fun x => D.int (covI x).2) = (cov.map fun c => c.2).map D.int := by
    rw [List.map_map, List.map_map]
    refine List.map_congr_left fun c _ => ?_
    show D.int (covI (covD c)).2 = _
    rw [covI_is]
    rfl
  rw [es]
  exact q
theorem p_law : ∀ ds QD ED, lawM ds QD ED → c_law (startE N_law ds) { nx := fun _ => QD .non, rt := fun d _ => QD d } ED := by
  intro ds QD ED h
  unfold lawM at h
  split at h
  · rename_i ns
    show c_law [.sh (.scr ns), .no, .no, .no, .no, .no, .no, .no, .no, .no, .no, .no, .no] _ ED
    unfold c_law sSeq
    refine ⟨rfl, ?_⟩
    show (_ ∧ _) ∧ _
    refine ⟨⟨by decide, by decide⟩, ?_⟩
    refine for_inv (k := 0) (fun _ ρ => ∃ c2 c3 c4 c5 c6 c7 c8 c9 c10 c11 c12 : Cell, ρ = [.sh (.scr ns), .sh .gen, c2, c3, c4, c5, c6, c7, c8, c9, c10, c11, c12]) ⟨_, _, _, _, _, _, _, _, _, _, _, rfl⟩ ?_ ?_
    · rintro i x ρ nx hx ⟨c2, c3, c4, c5, c6, c7, c8, c9, c10, c11, c12, rfl⟩ hn
      have hi3 := lt_of_at hx
      rw [upto_len] at hi3
      have hx := upto_at hx
      rw [show (0 : Int) + (i : Nat) * 1 = (i : Nat) by omega] at hx
      subst hx
      have hi3 : i < 3 := hi3
      have hnx : ∀ c2 c3 c4 c5 c6 c7 c8 c9 c10 c11 c12 : Cell, nx [.sh (.scr ns), .sh .gen, c2, c3, c4, c5, c6, c7, c8, c9, c10, c11, c12] := fun c2 c3 c4 c5 c6 c7 c8 c9 c10 c11 c12 => hn _ ⟨c2, c3, c4, c5, c6, c7, c8, c9, c10, c11, c12, rfl⟩
      clear hn h
      walk_at "dl0"
      refine ⟨by decide, ⟨List.cons_ne_nil _ _, by show 3 ≤ 1000; decide⟩, fun mo hmo => ?_⟩
      have hmo2 : ∃ b : Int, atI [D.int 40, D.int 40, mo] (i : Nat) = some (.int b) ∧ 0 ≤ b ∧ b ≤ 200 := by
        have hm : ∃ b : Int, mo = .int b ∧ 0 ≤ b ∧ b ≤ 200 := by
          simp only [List.mem_cons, List.not_mem_nil, or_false] at hmo
          rcases hmo with rfl | rfl | rfl
          · exact ⟨20, rfl, by decide, by decide⟩
          · exact ⟨20, rfl, by decide, by decide⟩
          · exact ⟨200, rfl, by decide, by decide⟩
        obtain ⟨b, rfl, b1, b2⟩ := hm
        match i, hi3 with
        | 0, _ => exact ⟨40, rfl, by decide, by decide⟩
        | 1, _ => exact ⟨40, rfl, by decide, by decide⟩
        | 2, _ => exact ⟨b, rfl, b1, b2⟩
      obtain ⟨most, emost, m1, m2⟩ := hmo2
      refine (show _ ∧ _ from ⟨by decide, ?_⟩)
      rw [emost]
      refine (show _ ∧ _ from ⟨⟨by decide, by decide, by decide⟩, ?_⟩)
      refine (show _ ∧ _ from ⟨by decide, ?_⟩)
      refine ⟨⟨List.cons_ne_nil _ _, by show 3 ≤ 1000; decide⟩, fun hv hhv => ?_⟩
      have hv2 : ∃ b : Int, hv = .int b ∧ 1 ≤ b ∧ b ≤ 1000000000 := by
        simp only [List.mem_cons, List.not_mem_nil, or_false] at hhv
        rcases hhv with rfl | rfl | rfl
        · exact ⟨1, rfl, by decide, by decide⟩
        · exact ⟨4, rfl, by decide, by decide⟩
        · exact ⟨1000000000, rfl, by decide, by decide⟩
      obtain ⟨b, rfl, b1, b2⟩ := hv2
      refine ⟨⟨m1, m2, b1, b2⟩, fun l ok sm hw hlen => ?_⟩
      have hw' : ∀ p ∈ l, p.2 ≤ 1000000000 := fun p hp => by have := hw p hp; omega
      have cs := cov_small ok hw'
      have hcl : (covL l).length ≤ 1000 := by have := cs.len; omega
      have co := covL_ok ok.pos hcl
      have gu := G_up l
      have gl := up_len l.length _ gu.1.1 gu.2
      have l200 : l.length ≤ 200 := by omega
      have et : wsum l (G none 0 l) = maxZ (T l) := G_top ok.pos hcl
      have e1 : ∀ Q : Bool → Prop, Q true → eqM (.tup (intN (G none 0 l))) (.tup (intN (G none 0 l))) Q ED := fun Q q => by
        rw [intN_eq]; exact eq_intsT (by rw [decide_eq_true rfl]; exact q)
      have e2 : ∀ Q : D → Prop, Q (.bl true) → m_is_choice [.lst (itsD l), .tup (intN (G none 0 l))] Q ED := fun Q q => ⟨l, _, .inl rfl, ok, rfl, gu.1, gu.2, q⟩
      have e3 : ∀ (cov : List (List Nat × Int)) (Q : D → Prop), CovOk l cov → Q (.bl true) → m_is_cover [.lst (itsD l), .lst (cov.map covD)] Q ED := fun cov Q co q => ⟨l, cov, .inl rfl, ok, rfl, co, q⟩
      have e4 : ∀ (c : List Nat) (Q : D → Prop), (∀ x ∈ c, x < l.length) → c.length ≤ 250 → Q (.int (wsum l c)) → m_weight_of [.lst (itsD l), .tup (intN c)] Q ED := fun c Q h1 h2 q => ⟨l, c, .inl rfl, ok, rfl, h1, h2, q⟩
      refine ⟨l, .inl rfl, ok, ?_⟩
      refine ⟨l, .inl rfl, ok, ?_⟩
      refine e4 _ _ gu.2 (by omega) ?_
      refine ⟨l, rfl, ok, ?_⟩
      refine e1 _ ?_
      walk_at "dl0"
      refine e2 _ ?_
      walk_at "dl0"
      refine e3 _ _ co ?_
      walk_at "dl0"
      have hM : ∀ c, Up l c → (∀ x ∈ c, x < l.length) → wsum l c ≤ maxZ (T l) := fun c u h => by
        rw [← et, ← G_sum]; exact up_le ok.pos u h
      have hS : ∀ cov, CovOk l cov → maxZ (T l) ≤ (cov.map fun c => c.2).sum := fun cov co => by
        rw [← et]; exact wsum_le gu.1 gu.2 co
      rw [et]
      have eqi : ∀ Q : Bool → Prop, Q true → eqM (.int (maxZ (T l))) (.int (maxZ (T l))) Q ED := fun Q q => by
        show Q (maxZ (T l) == maxZ (T l))
        rw [beq_self_eq_true]; exact q
      refine (show _ ∧ _ from ⟨by rw [sizeLine_eq]; omega, ?_⟩)
      refine sums_ok ?_
      refine sum_ints ?_
      rw [cov_sum ok.pos]
      refine eqi _ ?_
      walk_at "dl0"
      refine ⟨l, rfl, ok.pos, ok.len, ?_⟩
      refine eqi _ ?_
      walk_at "dl0"
      refine (show _ ∧ _ from ⟨⟨by decide, by decide⟩, ?_⟩)
      refine for_inv (k := 0) (fun _ ρ => ∃ c7 c8 c9 c10 c11 c12 : Cell, ρ = [.sh (.scr ns), .sh .gen, .sh (.int (i : Nat)), .sh (.lst (itsD l)), .sh (.tup (intN (G none 0 l))), .sh (.lst ((covL l).map covD)), .sh (.int (maxZ (T l))), c7, c8, c9, c10, c11, c12]) ⟨_, _, _, _, _, _, rfl⟩ ?_ ?_
      · rintro i' x' ρ nx' hx' ⟨c7, c8, c9, c10, c11, c12, rfl⟩ hn'
        have hnx' : ∀ c7 c8 c9 c10 c11 c12 : Cell, nx' [.sh (.scr ns), .sh .gen, .sh (.int (i : Nat)), .sh (.lst (itsD l)), .sh (.tup (intN (G none 0 l))), .sh (.lst ((covL l).map covD)), .sh (.int (maxZ (T l))), c7, c8, c9, c10, c11, c12] := fun c7 c8 c9 c10 c11 c12 => hn' _ ⟨c7, c8, c9, c10, c11, c12, rfl⟩
        clear hn' hnx
        walk_at "dl0"
        refine ⟨l, rfl, ok, fun c up hlt => ?_⟩
        refine ⟨l, rfl, ok, l200, fun cov cov_ok => ?_⟩
        have e2' : ∀ Q : D → Prop, Q (.bl true) → m_is_choice [.lst (itsD l), .tup (intN c)] Q ED := fun Q q => ⟨l, _, .inl rfl, ok, rfl, up, hlt, q⟩
        have hcl' := cov_ok.len
        have g1 : decide (maxZ (T l) < wsum l c) = false := decide_eq_false (by have := hM c up hlt; omega)
        have g2 : decide ((cov.map fun c => c.2).sum < maxZ (T l)) = false := decide_eq_false (by have := hS cov cov_ok; omega)
        have hup := up_len l.length c up.1 hlt
        refine (show _ ∧ _ from ⟨rfl, ?_⟩)
        refine e2' _ ?_
        walk_at "dl0"
        refine e4 _ _ hlt (by omega) ?_
        walk_at "dl0"
        rw [g1]
        refine (show _ ∧ _ from ⟨rfl, ?_⟩)
        refine e3 _ _ cov_ok ?_
        walk_at "dl0"
        refine (show _ ∧ _ from ⟨by rw [sizeLine_eq]; omega, ?_⟩)
        refine sums_ok ?_
        refine sum_ints ?_
        walk_at "dl0"
        rw [g2]
        exact hnx' _ _ _ _ _ _
      · rintro ρ ⟨c7, c8, c9, c10, c11, c12, rfl⟩
        walk_at "dl0"
        rw [its_len]
        refine (show _ ∧ _ from ⟨⟨by omega, by omega⟩, ?_⟩)
        refine (show _ ∧ _ from ⟨by rw [upto_len]; exact Nat.le_trans (show (l.length : Int).toNat ≤ 250 by omega) (by decide), ?_⟩)
        rw [Int.toNat_natCast]
        have eo : (upto 0 1 l.length).map (fun x => match x with | .int o => covD ([o.toNat], wtI l o.toNat) | x => x) = (ones l).map covD := by
          unfold ones
          rw [upto_int, List.map_map, List.map_map]
          rfl
        refine lc_map (fun x => match x with | .int o => covD ([o.toNat], wtI l o.toNat) | x => x) (fun x hx Q q => ?_) ?_
        · obtain ⟨o, ho, rfl⟩ := upto_all hx
          have q : Q (covD ([((o : Nat) : Int).toNat], wtI l ((o : Nat) : Int).toNat)) := q
          rw [Int.toNat_natCast] at q
          refine (show _ ∧ _ from ⟨by show 1 ≤ sizeLine; decide, ?_⟩)
          refine its_ix (E := ED) (.inl rfl) ho ?_
          refine (show _ ∧ _ from ⟨by show 2 ≤ sizeLine; decide, ?_⟩)
          exact q
        · rw [eo]
          refine e3 _ _ (ones_ok ok.pos ok.len) ?_
          walk_at "dl0"
          exact hnx _ _ _ _ _ _ _ _ _ _ _
    · rintro ρ ⟨c2, c3, c4, c5, c6, c7, c8, c9, c10, c11, c12, rfl⟩
      exact h
  · exact h.elim

end DL.K16

namespace DL.K16
open PySem L2 DL.K13

section
variable {P : Program} {w : World} {K : PySem.W.Frag} {mg : Str → Option Value} {base : Heap}
theorem glb0 (h : Free mg) : GlB P w K mg base 0 gl0 := by
  obtain ⟨h0, h1, h2, h3, h4, h5, h6, h7, h8, h9, h10, h11, h12, h13, h14⟩ := h
  exact GlB.cons ⟨h0, (by kernel_rfl), by decide, fun _ _ _ _ => b_abs⟩ (GlB.cons ⟨h1, (by kernel_rfl), by decide, fun _ hc _ _ => b_all hc⟩ (GlB.cons ⟨h2, (by kernel_rfl), by decide, fun _ _ _ _ => b_no⟩ (GlB.cons ⟨h3, (by kernel_rfl), by decide, fun _ hc _ _ => b_dict hc⟩ (GlB.cons h4 (GlB.cons ⟨h5, (by kernel_rfl), by decide, fun _ _ _ _ => b_no⟩ (GlB.cons h6 (GlB.cons ⟨h7, (by kernel_rfl), by decide, fun _ _ _ _ => b_len⟩ (GlB.cons ⟨h8, (by kernel_rfl), by decide, fun _ _ _ _ => b_list⟩ (GlB.cons ⟨h9, (by kernel_rfl), by decide, fun _ hc _ hu => b_max2 hu hc⟩ (GlB.cons h10 (GlB.cons ⟨h11, (by kernel_rfl), by decide, fun _ hc _ _ => b_sorted2 hc⟩ (GlB.cons ⟨h12, (by kernel_rfl), by decide, fun _ hc _ _ => b_sum hc⟩ (GlB.cons ⟨h13, (by kernel_rfl), by decide, fun _ _ _ _ => b_tuple⟩ (GlB.cons h14 GlB.nil (Nat.le_refl _)) (Nat.le_refl _)) (Nat.le_refl _)) (Nat.le_refl _)) (Nat.le_refl _)) (Nat.le_refl _)) (Nat.le_refl _)) (Nat.le_refl _)) (Nat.le_refl _)) (Nat.le_refl _)) (Nat.le_refl _)) (Nat.le_refl _)) (Nat.le_refl _)) (Nat.le_refl _)) (Nat.le_refl _)
theorem f_is_integer {f : Addr} {fd : FuncData} (F : Fun K "is_integer" "is_integer" s_is_integer f fd) (G : GlB P w K mg base 0 gl0) : FnG P w K mg base CX0 1 f fd ["value"] (SpM K 1 m_is_integer) := def_ok rules3_ok (n := 40) F sc_is_integer G e_is_integer p_is_integer
theorem glb_is_integer {f : Addr} {fd : FuncData} (F : Fun K "is_integer" "is_integer" s_is_integer f fd) (G : GlB P w K mg base 0 gl0) (hm : mg "is_integer" = some (.ref f)) : GlB P w K mg base 1 gl_is_integer :=
  GlB.cons (GvB.fun F hm (F.binds fun _ _ _ _ _ _ us hl => match us, hl with | [_], _ => rfl) (f_is_integer F G) rfl (fun z hz => by cases hz)) G (Nat.le_succ _)
theorem f_is_item {f : Addr} {fd : FuncData} (F : Fun K "is_item" "is_item" s_is_item f fd) (G : GlB P w K mg base 1 gl_is_integer) : FnG P w K mg base CX0 2 f fd ["value"] (SpM K 1 m_is_item) := def_ok rules3_ok (n := 40) F sc_is_item G e_is_item p_is_item
theorem glb_is_item {f : Addr} {fd : FuncData} (F : Fun K "is_item" "is_item" s_is_item f fd) (G : GlB P w K mg base 1 gl_is_integer) (hm : mg "is_item" = some (.ref f)) : GlB P w K mg base 2 gl_is_item :=
  GlB.cons (GvB.fun F hm (F.binds fun _ _ _ _ _ _ us hl => match us, hl with | [_], _ => rfl) (f_is_item F G) rfl (fun z hz => by cases hz)) G (Nat.le_succ _)
theorem f_need_items {f : Addr} {fd : FuncData} (F : Fun K "need_items" "need_items" s_need_items f fd) (G : GlB P w K mg base 2 gl_is_item) : FnG P w K mg base CX0 3 f fd ["items"] (SpM K 1 m_need_items) := def_ok rules3_ok (n := 40) F sc_need_items G e_need_items p_need_items
theorem glb_need_items {f : Addr} {fd : FuncData} (F : Fun K "need_items" "need_items" s_need_items f fd) (G : GlB P w K mg base 2 gl_is_item) (hm : mg "need_items" = some (.ref f)) : GlB P w K mg base 3 gl_need_items :=
  GlB.cons (GvB.fun F hm (F.binds fun _ _ _ _ _ _ us hl => match us, hl with | [_], _ => rfl) (f_need_items F G) rfl (fun z hz => by cases hz)) G (Nat.le_succ _)
theorem f_weights_from {f : Addr} {fd : FuncData} (F : Fun K "weights_from" "weights_from" s_weights_from f fd) (G : GlB P w K mg base 3 gl_need_items) : FnG P w K mg base CX0 4 f fd ["items"] (SpM K 1 m_weights_from) := def_ok rules3_ok (n := 40) F sc_weights_from G e_weights_from p_weights_from
theorem glb_weights_from {f : Addr} {fd : FuncData} (F : Fun K "weights_from" "weights_from" s_weights_from f fd) (G : GlB P w K mg base 3 gl_need_items) (hm : mg "weights_from" = some (.ref f)) : GlB P w K mg base 4 gl_weights_from :=
  GlB.cons (GvB.fun F hm (F.binds fun _ _ _ _ _ _ us hl => match us, hl with | [_], _ => rfl) (f_weights_from F G) rfl (fun z hz => by cases hz)) G (Nat.le_succ _)
theorem f_weights_up_to {f : Addr} {fd : FuncData} (F : Fun K "weights_up_to" "weights_up_to" s_weights_up_to f fd) (G : GlB P w K mg base 4 gl_weights_from) : FnG P w K mg base CX0 5 f fd ["items"] (SpM K 1 m_weights_up_to) := def_ok rules3_ok (n := 40) F sc_weights_up_to G e_weights_up_to p_weights_up_to
theorem glb_weights_up_to {f : Addr} {fd : FuncData} (F : Fun K "weights_up_to" "weights_up_to" s_weights_up_to f fd) (G : GlB P w K mg base 4 gl_weights_from) (hm : mg "weights_up_to" = some (.ref f)) : GlB P w K mg base 5 gl_weights_up_to :=
  GlB.cons (GvB.fun F hm (F.binds fun _ _ _ _ _ _ us hl => match us, hl with | [_], _ => rfl) (f_weights_up_to F G) rfl (fun z hz => by cases hz)) G (Nat.le_succ _)
theorem f_heaviest {f : Addr} {fd : FuncData} (F : Fun K "heaviest" "heaviest" s_heaviest f fd) (G : GlB P w K mg base 5 gl_weights_up_to) : FnG P w K mg base CX0 6 f fd ["items"] (SpM K 1 m_heaviest) := def_ok rules3_ok (n := 40) F sc_heaviest G e_heaviest p_heaviest
theorem glb_heaviest {f : Addr} {fd : FuncData} (F : Fun K "heaviest" "heaviest" s_heaviest f fd) (G : GlB P w K mg base 5 gl_weights_up_to) (hm : mg "heaviest" = some (.ref f)) : GlB P w K mg base 6 gl_heaviest :=
  GlB.cons (GvB.fun F hm (F.binds fun _ _ _ _ _ _ us hl => match us, hl with | [_], _ => rfl) (f_heaviest F G) rfl (fun z hz => by cases hz)) G (Nat.le_succ _)
theorem f_cover {f : Addr} {fd : FuncData} (F : Fun K "cover" "cover" s_cover f fd) (G : GlB P w K mg base 6 gl_heaviest) : FnG P w K mg base CX0 7 f fd ["items"] (SpF true K 1 m_cover) := def_okO rules3_ok (n := 40) F sc_cover G e_cover p_cover
theorem glb_cover {f : Addr} {fd : FuncData} (F : Fun K "cover" "cover" s_cover f fd) (G : GlB P w K mg base 6 gl_heaviest) (hm : mg "cover" = some (.ref f)) : GlB P w K mg base 7 gl_cover :=
  GlB.cons (GvB.funO F hm (F.binds fun _ _ _ _ _ _ us hl => match us, hl with | [_], _ => rfl) (f_cover F G) rfl (fun z hz => by cases hz)) G (Nat.le_succ _)
theorem f_are_indexes {f : Addr} {fd : FuncData} (F : Fun K "are_indexes" "are_indexes" s_are_indexes f fd) (G : GlB P w K mg base 7 gl_cover) : FnG P w K mg base CX0 8 f fd ["items", "value"] (SpM K 2 m_are_indexes) := def_ok rules3_ok (n := 40) F sc_are_indexes G e_are_indexes p_are_indexes
theorem glb_are_indexes {f : Addr} {fd : FuncData} (F : Fun K "are_indexes" "are_indexes" s_are_indexes f fd) (G : GlB P w K mg base 7 gl_cover) (hm : mg "are_indexes" = some (.ref f)) : GlB P w K mg base 8 gl_are_indexes :=
  GlB.cons (GvB.fun F hm (F.binds fun _ _ _ _ _ _ us hl => match us, hl with | [_, _], _ => rfl) (f_are_indexes F G) rfl (fun z hz => by cases hz)) G (Nat.le_succ _)
theorem f_is_choice {f : Addr} {fd : FuncData} (F : Fun K "is_choice" "is_choice" s_is_choice f fd) (G : GlB P w K mg base 8 gl_are_indexes) : FnG P w K mg base CX0 9 f fd ["items", "value"] (SpM K 2 m_is_choice) := def_ok rules3_ok (n := 40) F sc_is_choice G e_is_choice p_is_choice
theorem glb_is_choice {f : Addr} {fd : FuncData} (F : Fun K "is_choice" "is_choice" s_is_choice f fd) (G : GlB P w K mg base 8 gl_are_indexes) (hm : mg "is_choice" = some (.ref f)) : GlB P w K mg base 9 gl_is_choice :=
  GlB.cons (GvB.fun F hm (F.binds fun _ _ _ _ _ _ us hl => match us, hl with | [_, _], _ => rfl) (f_is_choice F G) rfl (fun z hz => by
    simp only [List.mem_cons, List.not_mem_nil, or_false] at hz
    subst hz
    exact Fun.kw F fun _ _ _ _ _ _ us ws hu hw => match us, ws, hu, hw with | [], [_, _], _, _ => rfl)) G (Nat.le_succ _)
theorem f_is_fall {f : Addr} {fd : FuncData} (F : Fun K "is_fall" "is_fall" s_is_fall f fd) (G : GlB P w K mg base 9 gl_is_choice) : FnG P w K mg base CX0 10 f fd ["items", "value"] (SpM K 2 m_is_fall) := def_ok rules3_ok (n := 40) F sc_is_fall G e_is_fall p_is_fall
theorem glb_is_fall {f : Addr} {fd : FuncData} (F : Fun K "is_fall" "is_fall" s_is_fall f fd) (G : GlB P w K mg base 9 gl_is_choice) (hm : mg "is_fall" = some (.ref f)) : GlB P w K mg base 10 gl_is_fall :=
  GlB.cons (GvB.fun F hm (F.binds fun _ _ _ _ _ _ us hl => match us, hl with | [_, _], _ => rfl) (f_is_fall F G) rfl (fun z hz => by cases hz)) G (Nat.le_succ _)
theorem f_is_cover {f : Addr} {fd : FuncData} (F : Fun K "is_cover" "is_cover" s_is_cover f fd) (G : GlB P w K mg base 10 gl_is_fall) : FnG P w K mg base CX0 11 f fd ["items", "value"] (SpM K 2 m_is_cover) := def_ok rules3_ok (n := 40) F sc_is_cover G e_is_cover p_is_cover
theorem glb_is_cover {f : Addr} {fd : FuncData} (F : Fun K "is_cover" "is_cover" s_is_cover f fd) (G : GlB P w K mg base 10 gl_is_fall) (hm : mg "is_cover" = some (.ref f)) : GlB P w K mg base 11 gl_is_cover :=
  GlB.cons (GvB.fun F hm (F.binds fun _ _ _ _ _ _ us hl => match us, hl with | [_, _], _ => rfl) (f_is_cover F G) rfl (fun z hz => by
    simp only [List.mem_cons, List.not_mem_nil, or_false] at hz
    subst hz
    exact Fun.kw F fun _ _ _ _ _ _ us ws hu hw => match us, ws, hu, hw with | [], [_, _], _, _ => rfl)) G (Nat.le_succ _)
theorem f_weight_of {f : Addr} {fd : FuncData} (F : Fun K "weight_of" "weight_of" s_weight_of f fd) (G : GlB P w K mg base 11 gl_is_cover) : FnG P w K mg base CX0 12 f fd ["items", "choice"] (SpM K 2 m_weight_of) := def_ok rules3_ok (n := 40) F sc_weight_of G e_weight_of p_weight_of
theorem glb_weight_of {f : Addr} {fd : FuncData} (F : Fun K "weight_of" "weight_of" s_weight_of f fd) (G : GlB P w K mg base 11 gl_is_cover) (hm : mg "weight_of" = some (.ref f)) : GlB P w K mg base 12 gl_weight_of :=
  GlB.cons (GvB.fun F hm (F.binds fun _ _ _ _ _ _ us hl => match us, hl with | [_, _], _ => rfl) (f_weight_of F G) rfl (fun z hz => by cases hz)) G (Nat.le_succ _)
theorem f__law_begun {f : Addr} {fd : FuncData} (F : Fun K "_law_begun" "_law_begun" s__law_begun f fd) (G : GlB P w K mg base 12 gl_weight_of) : FnG P w K mg base CX0 13 f fd ["_law_script"] (SpM K 1 begunM) := begun_ok rules3_ok (n := 40) F sc__law_begun G e__law_begun p__law_begun
theorem glb__law_begun {f : Addr} {fd : FuncData} (F : Fun K "_law_begun" "_law_begun" s__law_begun f fd) (G : GlB P w K mg base 12 gl_weight_of) (hm : mg "_law_begun" = some (.ref f)) : GlB P w K mg base 13 gl__law_begun :=
  GlB.cons (GvB.fun F hm (F.binds fun _ _ _ _ _ _ us hl => match us, hl with | [_], _ => rfl) (f__law_begun F G) rfl (fun z hz => by cases hz)) G (Nat.le_succ _)
theorem f__law_draw {f : Addr} {fd : FuncData} (F : Fun K "_law_draw" "_law_draw" s__law_draw f fd) (G : GlB P w K mg base 13 gl__law_begun) : FnG P w K mg base CX0 14 f fd ["_law_state", "_law_bound"] (SpM K 2 drawM) := draw_ok rules3_ok (n := 40) F sc__law_draw rfl (by intro x hx; cases hx; decide +kernel) G (by decide +kernel) e__law_draw1 e__law_draw2 p__law_draw
theorem glb__law_draw {f : Addr} {fd : FuncData} (F : Fun K "_law_draw" "_law_draw" s__law_draw f fd) (G : GlB P w K mg base 13 gl__law_begun) (hm : mg "_law_draw" = some (.ref f)) : GlB P w K mg base 14 gl__law_draw :=
  GlB.cons (GvB.fun F hm (F.binds fun _ _ _ _ _ _ us hl => match us, hl with | [_, _], _ => rfl) (f__law_draw F G) rfl (fun z hz => by cases hz)) G (Nat.le_succ _)
theorem f__law_pick {f : Addr} {fd : FuncData} (F : Fun K "_law_pick" "_law_pick" s__law_pick f fd) (G : GlB P w K mg base 14 gl__law_draw) : FnG P w K mg base CX0 15 f fd ["_law_state", "_law_some"] (SpM K 2 m__law_pick) := def_ok rules3_ok (n := 40) F sc__law_pick G e__law_pick p__law_pick
theorem glb__law_pick {f : Addr} {fd : FuncData} (F : Fun K "_law_pick" "_law_pick" s__law_pick f fd) (G : GlB P w K mg base 14 gl__law_draw) (hm : mg "_law_pick" = some (.ref f)) : GlB P w K mg base 15 gl__law_pick :=
  GlB.cons (GvB.fun F hm (F.binds fun _ _ _ _ _ _ us hl => match us, hl with | [_, _], _ => rfl) (f__law_pick F G) rfl (fun z hz => by cases hz)) G (Nat.le_succ _)
theorem f__law_mixed {f : Addr} {fd : FuncData} (F : Fun K "_law_mixed" "_law_mixed" s__law_mixed f fd) (G : GlB P w K mg base 15 gl__law_pick) : FnG P w K mg base CX0 16 f fd ["_law_state", "_law_some"] (SpM K 2 m__law_mixed) := def_ok rules3_ok (n := 40) F sc__law_mixed G e__law_mixed p__law_mixed
theorem glb__law_mixed {f : Addr} {fd : FuncData} (F : Fun K "_law_mixed" "_law_mixed" s__law_mixed f fd) (G : GlB P w K mg base 15 gl__law_pick) (hm : mg "_law_mixed" = some (.ref f)) : GlB P w K mg base 16 gl__law_mixed :=
  GlB.cons (GvB.fun F hm (F.binds fun _ _ _ _ _ _ us hl => match us, hl with | [_, _], _ => rfl) (f__law_mixed F G) rfl (fun z hz => by cases hz)) G (Nat.le_succ _)
theorem f__law_items {f : Addr} {fd : FuncData} (F : Fun K "_law_items" "_law_items" s__law_items f fd) (G : GlB P w K mg base 16 gl__law_mixed) : FnG P w K mg base CX0 17 f fd ["_law_state", "_law_most", "_law_heavy"] (SpM K 3 m__law_items) := def_ok rules3_ok (n := 40) F sc__law_items G e__law_items p__law_items
theorem glb__law_items {f : Addr} {fd : FuncData} (F : Fun K "_law_items" "_law_items" s__law_items f fd) (G : GlB P w K mg base 16 gl__law_mixed) (hm : mg "_law_items" = some (.ref f)) : GlB P w K mg base 17 gl__law_items :=
  GlB.cons (GvB.fun F hm (F.binds fun _ _ _ _ _ _ us hl => match us, hl with | [_, _, _], _ => rfl) (f__law_items F G) rfl (fun z hz => by cases hz)) G (Nat.le_succ _)
theorem f__law_top {f : Addr} {fd : FuncData} (F : Fun K "_law_top" "_law_top" s__law_top f fd) (G : GlB P w K mg base 17 gl__law_items) : FnG P w K mg base CX0 18 f fd ["_law_things"] (SpM K 1 m__law_top) := def_ok rules3_ok (n := 40) F sc__law_top G e__law_top p__law_top
theorem glb__law_top {f : Addr} {fd : FuncData} (F : Fun K "_law_top" "_law_top" s__law_top f fd) (G : GlB P w K mg base 17 gl__law_items) (hm : mg "_law_top" = some (.ref f)) : GlB P w K mg base 18 gl__law_top :=
  GlB.cons (GvB.fun F hm (F.binds fun _ _ _ _ _ _ us hl => match us, hl with | [_], _ => rfl) (f__law_top F G) rfl (fun z hz => by cases hz)) G (Nat.le_succ _)
theorem f__law_least_heavy {f : Addr} {fd : FuncData} (F : Fun K "_law_least_heavy" "_law_least_heavy" s__law_least_heavy f fd) (G : GlB P w K mg base 18 gl__law_top) : FnG P w K mg base CX0 19 f fd ["_law_things"] (SpM K 1 m__law_least_heavy) := def_ok rules3_ok (n := 40) F sc__law_least_heavy G e__law_least_heavy p__law_least_heavy
theorem glb__law_least_heavy {f : Addr} {fd : FuncData} (F : Fun K "_law_least_heavy" "_law_least_heavy" s__law_least_heavy f fd) (G : GlB P w K mg base 18 gl__law_top) (hm : mg "_law_least_heavy" = some (.ref f)) : GlB P w K mg base 19 gl__law_least_heavy :=
  GlB.cons (GvB.fun F hm (F.binds fun _ _ _ _ _ _ us hl => match us, hl with | [_], _ => rfl) (f__law_least_heavy F G) rfl (fun z hz => by cases hz)) G (Nat.le_succ _)
theorem f__law_climb {f : Addr} {fd : FuncData} (F : Fun K "_law_climb" "_law_climb" s__law_climb f fd) (G : GlB P w K mg base 19 gl__law_least_heavy) : FnG P w K mg base CX0 20 f fd ["_law_state", "_law_things"] (SpM K 2 m__law_climb) := def_ok rules3_ok (n := 40) F sc__law_climb G e__law_climb p__law_climb
theorem glb__law_climb {f : Addr} {fd : FuncData} (F : Fun K "_law_climb" "_law_climb" s__law_climb f fd) (G : GlB P w K mg base 19 gl__law_least_heavy) (hm : mg "_law_climb" = some (.ref f)) : GlB P w K mg base 20 gl__law_climb :=
  GlB.cons (GvB.fun F hm (F.binds fun _ _ _ _ _ _ us hl => match us, hl with | [_, _], _ => rfl) (f__law_climb F G) rfl (fun z hz => by cases hz)) G (Nat.le_succ _)
theorem f__law_piled {f : Addr} {fd : FuncData} (F : Fun K "_law_piled" "_law_piled" s__law_piled f fd) (G : GlB P w K mg base 20 gl__law_climb) : FnG P w K mg base CX0 21 f fd ["_law_state", "_law_things"] (SpM K 2 m__law_piled) := def_ok rules3_ok (n := 40) F sc__law_piled G e__law_piled p__law_piled
theorem glb__law_piled {f : Addr} {fd : FuncData} (F : Fun K "_law_piled" "_law_piled" s__law_piled f fd) (G : GlB P w K mg base 20 gl__law_climb) (hm : mg "_law_piled" = some (.ref f)) : GlB P w K mg base 21 gl__law_piled :=
  GlB.cons (GvB.fun F hm (F.binds fun _ _ _ _ _ _ us hl => match us, hl with | [_, _], _ => rfl) (f__law_piled F G) rfl (fun z hz => by cases hz)) G (Nat.le_succ _)
theorem f_law {f : Addr} {fd : FuncData} (F : Fun K "law" "law" s_law f fd) (G : GlB P w K mg base 21 gl__law_piled) : FnG P w K mg base CX0 22 f fd ["_law_script"] (SpM K 1 lawM) := def_ok rules3_ok (n := 40) F sc_law G e_law p_law
end
theorem all_mk {l : PySem.W.OpenLaw} {w : World} {K : PySem.W.Frag} {h : Heap} {mg : Str → Option Value} {fa : Addr} (X : K.In h) (G : h.Ns mainGlobals mg) (hfa : mg "law" = some (.ref fa))
    {f0 f1 f2 f3 f4 f5 f6 f7 f8 f9 f10 f11 f12 f13 f14 f15 f16 f17 f18 f19 f20 f21 : Addr} {od0 an0 od1 an1 od2 an2 od3 an3 od4 an4 od5 an5 od6 an6 od7 an7 od8 an8 od9 an9 od10 an10 od11 an11 od12 an12 od13 an13 od14 an14 od15 an15 od16 an16 od17 an17 od18 an18 od19 an19 od20 an20 od21 an21 : Option Addr} {sl0 sl1 sl2 sl3 sl4 sl5 sl6 sl7 sl8 sl9 sl10 sl11 sl12 sl13 sl14 sl15 sl16 sl17 sl18 sl19 sl20 sl21 : Array (Option Value)} {oc0 kV0 dc0 pm0 cd0 ct0 oc1 kV1 dc1 pm1 cd1 ct1 oc2 kV2 dc2 pm2 cd2 ct2 oc3 kV3 dc3 pm3 cd3 ct3 oc4 kV4 dc4 pm4 cd4 ct4 oc5 kV5 dc5 pm5 cd5 ct5 oc6 kV6 dc6 pm6 cd6 ct6 oc7 kV7 dc7 pm7 cd7 ct7 oc8 kV8 dc8 pm8 cd8 ct8 oc9 kV9 dc9 pm9 cd9 ct9 oc10 kV10 dc10 pm10 cd10 ct10 oc11 kV11 dc11 pm11 cd11 ct11 oc12 kV12 dc12 pm12 cd12 ct12 oc13 kV13 dc13 pm13 cd13 ct13 oc14 kV14 dc14 pm14 cd14 ct14 oc15 kV15 dc15 pm15 cd15 ct15 oc16 kV16 dc16 pm16 cd16 ct16 oc17 kV17 dc17 pm17 cd17 ct17 oc18 kV18 dc18 pm18 cd18 ct18 oc19 kV19 dc19 pm19 cd19 ct19 oc20 kV20 dc20 pm20 cd20 ct20 oc21 kV21 dc21 pm21 cd21 ct21 : Value}
    (a0 : PySem.W.nsIn K mainGlobals "is_integer" = some (some (.ref f0))) (l0 : K.lookup f0 = some ⟨oc0, od0, .func (PySem.W.fnOf "is_integer" "is_integer" (defArgs s_is_integer) (defBody s_is_integer) (defScope s_is_integer) .none kV0 dc0 pm0 an0 cd0 ct0), sl0⟩) (c0 : PySem.W.codeIn K cd0 "is_integer" = true) (k0 : PySem.W.keepIn K (.ref f0) = true)
    (a1 : PySem.W.nsIn K mainGlobals "is_item" = some (some (.ref f1))) (l1 : K.lookup f1 = some ⟨oc1, od1, .func (PySem.W.fnOf "is_item" "is_item" (defArgs s_is_item) (defBody s_is_item) (defScope s_is_item) .none kV1 dc1 pm1 an1 cd1 ct1), sl1⟩) (c1 : PySem.W.codeIn K cd1 "is_item" = true) (k1 : PySem.W.keepIn K (.ref f1) = true)
    (a2 : PySem.W.nsIn K mainGlobals "need_items" = some (some (.ref f2))) (l2 : K.lookup f2 = some ⟨oc2, od2, .func (PySem.W.fnOf "need_items" "need_items" (defArgs s_need_items) (defBody s_need_items) (defScope s_need_items) .none kV2 dc2 pm2 an2 cd2 ct2), sl2⟩) (c2 : PySem.W.codeIn K cd2 "need_items" = true) (k2 : PySem.W.keepIn K (.ref f2) = true)
    (a3 : PySem.W.nsIn K mainGlobals "weights_from" = some (some (.ref f3))) (l3 : K.lookup f3 = some ⟨oc3, od3, .func (PySem.W.fnOf "weights_from" "weights_from" (defArgs s_weights_from) (defBody s_weights_from) (defScope s_weights_from) .none kV3 dc3 pm3 an3 cd3 ct3), sl3⟩) (c3 : PySem.W.codeIn K cd3 "weights_from" = true) (k3 : PySem.W.keepIn K (.ref f3) = true)
    (a4 : PySem.W.nsIn K mainGlobals "weights_up_to" = some (some (.ref f4))) (l4 : K.lookup f4 = some ⟨oc4, od4, .func (PySem.W.fnOf "weights_up_to" "weights_up_to" (defArgs s_weights_up_to) (defBody s_weights_up_to) (defScope s_weights_up_to) .none kV4 dc4 pm4 an4 cd4 ct4), sl4⟩) (c4 : PySem.W.codeIn K cd4 "weights_up_to" = true) (k4 : PySem.W.keepIn K (.ref f4) = true)
    (a5 : PySem.W.nsIn K mainGlobals "heaviest" = some (some (.ref f5))) (l5 : K.lookup f5 = some ⟨oc5, od5, .func (PySem.W.fnOf "heaviest" "heaviest" (defArgs s_heaviest) (defBody s_heaviest) (defScope s_heaviest) .none kV5 dc5 pm5 an5 cd5 ct5), sl5⟩) (c5 : PySem.W.codeIn K cd5 "heaviest" = true) (k5 : PySem.W.keepIn K (.ref f5) = true)
    (a6 : PySem.W.nsIn K mainGlobals "cover" = some (some (.ref f6))) (l6 : K.lookup f6 = some ⟨oc6, od6, .func (PySem.W.fnOf "cover" "cover" (defArgs s_cover) (defBody s_cover) (defScope s_cover) .none kV6 dc6 pm6 an6 cd6 ct6), sl6⟩) (c6 : PySem.W.codeIn K cd6 "cover" = true) (k6 : PySem.W.keepIn K (.ref f6) = true)
    (a7 : PySem.W.nsIn K mainGlobals "are_indexes" = some (some (.ref f7))) (l7 : K.lookup f7 = some ⟨oc7, od7, .func (PySem.W.fnOf "are_indexes" "are_indexes" (defArgs s_are_indexes) (defBody s_are_indexes) (defScope s_are_indexes) .none kV7 dc7 pm7 an7 cd7 ct7), sl7⟩) (c7 : PySem.W.codeIn K cd7 "are_indexes" = true) (k7 : PySem.W.keepIn K (.ref f7) = true)
    (a8 : PySem.W.nsIn K mainGlobals "is_choice" = some (some (.ref f8))) (l8 : K.lookup f8 = some ⟨oc8, od8, .func (PySem.W.fnOf "is_choice" "is_choice" (defArgs s_is_choice) (defBody s_is_choice) (defScope s_is_choice) .none kV8 dc8 pm8 an8 cd8 ct8), sl8⟩) (c8 : PySem.W.codeIn K cd8 "is_choice" = true) (k8 : PySem.W.keepIn K (.ref f8) = true)
    (a9 : PySem.W.nsIn K mainGlobals "is_fall" = some (some (.ref f9))) (l9 : K.lookup f9 = some ⟨oc9, od9, .func (PySem.W.fnOf "is_fall" "is_fall" (defArgs s_is_fall) (defBody s_is_fall) (defScope s_is_fall) .none kV9 dc9 pm9 an9 cd9 ct9), sl9⟩) (c9 : PySem.W.codeIn K cd9 "is_fall" = true) (k9 : PySem.W.keepIn K (.ref f9) = true)
    (a10 : PySem.W.nsIn K mainGlobals "is_cover" = some (some (.ref f10))) (l10 : K.lookup f10 = some ⟨oc10, od10, .func (PySem.W.fnOf "is_cover" "is_cover" (defArgs s_is_cover) (defBody s_is_cover) (defScope s_is_cover) .none kV10 dc10 pm10 an10 cd10 ct10), sl10⟩) (c10 : PySem.W.codeIn K cd10 "is_cover" = true) (k10 : PySem.W.keepIn K (.ref f10) = true)
    (a11 : PySem.W.nsIn K mainGlobals "weight_of" = some (some (.ref f11))) (l11 : K.lookup f11 = some ⟨oc11, od11, .func (PySem.W.fnOf "weight_of" "weight_of" (defArgs s_weight_of) (defBody s_weight_of) (defScope s_weight_of) .none kV11 dc11 pm11 an11 cd11 ct11), sl11⟩) (c11 : PySem.W.codeIn K cd11 "weight_of" = true) (k11 : PySem.W.keepIn K (.ref f11) = true)
    (a12 : PySem.W.nsIn K mainGlobals "_law_begun" = some (some (.ref f12))) (l12 : K.lookup f12 = some ⟨oc12, od12, .func (PySem.W.fnOf "_law_begun" "_law_begun" (defArgs s__law_begun) (defBody s__law_begun) (defScope s__law_begun) .none kV12 dc12 pm12 an12 cd12 ct12), sl12⟩) (c12 : PySem.W.codeIn K cd12 "_law_begun" = true) (k12 : PySem.W.keepIn K (.ref f12) = true)
    (a13 : PySem.W.nsIn K mainGlobals "_law_draw" = some (some (.ref f13))) (l13 : K.lookup f13 = some ⟨oc13, od13, .func (PySem.W.fnOf "_law_draw" "_law_draw" (defArgs s__law_draw) (defBody s__law_draw) (defScope s__law_draw) .none kV13 dc13 pm13 an13 cd13 ct13), sl13⟩) (c13 : PySem.W.codeIn K cd13 "_law_draw" = true) (k13 : PySem.W.keepIn K (.ref f13) = true)
    (a14 : PySem.W.nsIn K mainGlobals "_law_pick" = some (some (.ref f14))) (l14 : K.lookup f14 = some ⟨oc14, od14, .func (PySem.W.fnOf "_law_pick" "_law_pick" (defArgs s__law_pick) (defBody s__law_pick) (defScope s__law_pick) .none kV14 dc14 pm14 an14 cd14 ct14), sl14⟩) (c14 : PySem.W.codeIn K cd14 "_law_pick" = true) (k14 : PySem.W.keepIn K (.ref f14) = true)
    (a15 : PySem.W.nsIn K mainGlobals "_law_mixed" = some (some (.ref f15))) (l15 : K.lookup f15 = some ⟨oc15, od15, .func (PySem.W.fnOf "_law_mixed" "_law_mixed" (defArgs s__law_mixed) (defBody s__law_mixed) (defScope s__law_mixed) .none kV15 dc15 pm15 an15 cd15 ct15), sl15⟩) (c15 : PySem.W.codeIn K cd15 "_law_mixed" = true) (k15 : PySem.W.keepIn K (.ref f15) = true)
    (a16 : PySem.W.nsIn K mainGlobals "_law_items" = some (some (.ref f16))) (l16 : K.lookup f16 = some ⟨oc16, od16, .func (PySem.W.fnOf "_law_items" "_law_items" (defArgs s__law_items) (defBody s__law_items) (defScope s__law_items) .none kV16 dc16 pm16 an16 cd16 ct16), sl16⟩) (c16 : PySem.W.codeIn K cd16 "_law_items" = true) (k16 : PySem.W.keepIn K (.ref f16) = true)
    (a17 : PySem.W.nsIn K mainGlobals "_law_top" = some (some (.ref f17))) (l17 : K.lookup f17 = some ⟨oc17, od17, .func (PySem.W.fnOf "_law_top" "_law_top" (defArgs s__law_top) (defBody s__law_top) (defScope s__law_top) .none kV17 dc17 pm17 an17 cd17 ct17), sl17⟩) (c17 : PySem.W.codeIn K cd17 "_law_top" = true) (k17 : PySem.W.keepIn K (.ref f17) = true)
    (a18 : PySem.W.nsIn K mainGlobals "_law_least_heavy" = some (some (.ref f18))) (l18 : K.lookup f18 = some ⟨oc18, od18, .func (PySem.W.fnOf "_law_least_heavy" "_law_least_heavy" (defArgs s__law_least_heavy) (defBody s__law_least_heavy) (defScope s__law_least_heavy) .none kV18 dc18 pm18 an18 cd18 ct18), sl18⟩) (c18 : PySem.W.codeIn K cd18 "_law_least_heavy" = true) (k18 : PySem.W.keepIn K (.ref f18) = true)
    (a19 : PySem.W.nsIn K mainGlobals "_law_climb" = some (some (.ref f19))) (l19 : K.lookup f19 = some ⟨oc19, od19, .func (PySem.W.fnOf "_law_climb" "_law_climb" (defArgs s__law_climb) (defBody s__law_climb) (defScope s__law_climb) .none kV19 dc19 pm19 an19 cd19 ct19), sl19⟩) (c19 : PySem.W.codeIn K cd19 "_law_climb" = true) (k19 : PySem.W.keepIn K (.ref f19) = true)
    (a20 : PySem.W.nsIn K mainGlobals "_law_piled" = some (some (.ref f20))) (l20 : K.lookup f20 = some ⟨oc20, od20, .func (PySem.W.fnOf "_law_piled" "_law_piled" (defArgs s__law_piled) (defBody s__law_piled) (defScope s__law_piled) .none kV20 dc20 pm20 an20 cd20 ct20), sl20⟩) (c20 : PySem.W.codeIn K cd20 "_law_piled" = true) (k20 : PySem.W.keepIn K (.ref f20) = true)
    (a21 : PySem.W.nsIn K mainGlobals "law" = some (some (.ref f21))) (l21 : K.lookup f21 = some ⟨oc21, od21, .func (PySem.W.fnOf "law" "law" (defArgs s_law) (defBody s_law) (defScope s_law) .none kV21 dc21 pm21 an21 cd21 ct21), sl21⟩) (c21 : PySem.W.codeIn K cd21 "law" = true) (k21 : PySem.W.keepIn K (.ref f21) = true)
    (z0 : PySem.W.nsIn K mainGlobals "abs" = some none)
    (z1 : PySem.W.nsIn K mainGlobals "all" = some none)
    (z2 : PySem.W.nsIn K mainGlobals "bool" = some none)
    (z3 : PySem.W.nsIn K mainGlobals "dict" = some none)
    (z4 : PySem.W.nsIn K mainGlobals "enumerate" = some none)
    (z5 : PySem.W.nsIn K mainGlobals "int" = some none)
    (z6 : PySem.W.nsIn K mainGlobals "isinstance" = some none)
    (z7 : PySem.W.nsIn K mainGlobals "len" = some none)
    (z8 : PySem.W.nsIn K mainGlobals "list" = some none)
    (z9 : PySem.W.nsIn K mainGlobals "max" = some none)
    (z10 : PySem.W.nsIn K mainGlobals "range" = some none)
    (z11 : PySem.W.nsIn K mainGlobals "sorted" = some none)
    (z12 : PySem.W.nsIn K mainGlobals "sum" = some none)
    (z13 : PySem.W.nsIn K mainGlobals "tuple" = some none)
    (z14 : PySem.W.nsIn K mainGlobals "zip" = some none)
    : ∃ fd : FuncData, (∀ (s : Shared) (v : Value), BindsTo s fd ⟨[v], []⟩ [("_law_script", v)]) ∧ ∀ base : Heap, K.In base → base.Ns mainGlobals mg → FnG l.prog w K mg base CX0 22 fa fd ["_law_script"] (SpM K 1 lawM) := by
  have e := hfa.symm.trans (PySem.W.mg_of X G a21)
  cases e
  refine ⟨PySem.W.fnOf "law" "law" (defArgs s_law) (defBody s_law) (defScope s_law) .none kV21 dc21 pm21 an21 cd21 ct21, fun s v => .of_eq rfl, fun base _ _ => ?_⟩
  have H0 : GlB l.prog w K mg base 0 gl0 := glb0 ⟨PySem.W.mg_none_of X G z0, PySem.W.mg_none_of X G z1, PySem.W.mg_none_of X G z2, PySem.W.mg_none_of X G z3, PySem.W.mg_none_of X G z4, PySem.W.mg_none_of X G z5, PySem.W.mg_none_of X G z6, PySem.W.mg_none_of X G z7, PySem.W.mg_none_of X G z8, PySem.W.mg_none_of X G z9, PySem.W.mg_none_of X G z10, PySem.W.mg_none_of X G z11, PySem.W.mg_none_of X G z12, PySem.W.mg_none_of X G z13, PySem.W.mg_none_of X G z14⟩
  have H1 := glb_is_integer (fun_mk (st := s_is_integer) l0 c0 k0) H0 (PySem.W.mg_of X G a0)
  have H2 := glb_is_item (fun_mk (st := s_is_item) l1 c1 k1) H1 (PySem.W.mg_of X G a1)
  have H3 := glb_need_items (fun_mk (st := s_need_items) l2 c2 k2) H2 (PySem.W.mg_of X G a2)
  have H4 := glb_weights_from (fun_mk (st := s_weights_from) l3 c3 k3) H3 (PySem.W.mg_of X G a3)
  have H5 := glb_weights_up_to (fun_mk (st := s_weights_up_to) l4 c4 k4) H4 (PySem.W.mg_of X G a4)
  have H6 := glb_heaviest (fun_mk (st := s_heaviest) l5 c5 k5) H5 (PySem.W.mg_of X G a5)
  have H7 := glb_cover (fun_mk (st := s_cover) l6 c6 k6) H6 (PySem.W.mg_of X G a6)
  have H8 := glb_are_indexes (fun_mk (st := s_are_indexes) l7 c7 k7) H7 (PySem.W.mg_of X G a7)
  have H9 := glb_is_choice (fun_mk (st := s_is_choice) l8 c8 k8) H8 (PySem.W.mg_of X G a8)
  have H10 := glb_is_fall (fun_mk (st := s_is_fall) l9 c9 k9) H9 (PySem.W.mg_of X G a9)
  have H11 := glb_is_cover (fun_mk (st := s_is_cover) l10 c10 k10) H10 (PySem.W.mg_of X G a10)
  have H12 := glb_weight_of (fun_mk (st := s_weight_of) l11 c11 k11) H11 (PySem.W.mg_of X G a11)
  have H13 := glb__law_begun (fun_mk (st := s__law_begun) l12 c12 k12) H12 (PySem.W.mg_of X G a12)
  have H14 := glb__law_draw (fun_mk (st := s__law_draw) l13 c13 k13) H13 (PySem.W.mg_of X G a13)
  have H15 := glb__law_pick (fun_mk (st := s__law_pick) l14 c14 k14) H14 (PySem.W.mg_of X G a14)
  have H16 := glb__law_mixed (fun_mk (st := s__law_mixed) l15 c15 k15) H15 (PySem.W.mg_of X G a15)
  have H17 := glb__law_items (fun_mk (st := s__law_items) l16 c16 k16) H16 (PySem.W.mg_of X G a16)
  have H18 := glb__law_top (fun_mk (st := s__law_top) l17 c17 k17) H17 (PySem.W.mg_of X G a17)
  have H19 := glb__law_least_heavy (fun_mk (st := s__law_least_heavy) l18 c18 k18) H18 (PySem.W.mg_of X G a18)
  have H20 := glb__law_climb (fun_mk (st := s__law_climb) l19 c19 k19) H19 (PySem.W.mg_of X G a19)
  have H21 := glb__law_piled (fun_mk (st := s__law_piled) l20 c20 k20) H20 (PySem.W.mg_of X G a20)
  exact f_law (fun_mk (st := s_law) l21 c21 k21) H21

end DL.K16
open PySem PySem.W PyProof.Rows in
set_option maxRecDepth 100000 in
set_option maxHeartbeats 0 in
theorem PySem.Challenge.cw_viewturns_k16_whole_choices_against_cove_holds : PySem.Challenge.rw_viewturns_k16_whole_choices_against_cove.Holds := by
  w_on; o_law; k_head; (case hw => w_witness2)
  k_fill
  refine DL.walkG (l := PySem.Challenge.rw_viewturns_k16_whole_choices_against_cove) (n := 63) (k := 22) (x := "_law_script") (sp := fun K => DL.SpM K 1 DL.lawM) rfl (by decide) rfl ⟨rfl, by decide, by decide⟩ (fun w h Y => PySem.W.kIn_of Y) ?F (DL.law_sp 63)
  case F =>
    intro w mg fa h KX G hmg
    refine' DL.K16.all_mk KX G hmg ?a0 ?l0 ?c0 ?k0 ?a1 ?l1 ?c1 ?k1 ?a2 ?l2 ?c2 ?k2 ?a3 ?l3 ?c3 ?k3 ?a4 ?l4 ?c4 ?k4 ?a5 ?l5 ?c5 ?k5 ?a6 ?l6 ?c6 ?k6 ?a7 ?l7 ?c7 ?k7 ?a8 ?l8 ?c8 ?k8 ?a9 ?l9 ?c9 ?k9 ?a10 ?l10 ?c10 ?k10 ?a11 ?l11 ?c11 ?k11 ?a12 ?l12 ?c12 ?k12 ?a13 ?l13 ?c13 ?k13 ?a14 ?l14 ?c14 ?k14 ?a15 ?l15 ?c15 ?k15 ?a16 ?l16 ?c16 ?k16 ?a17 ?l17 ?c17 ?k17 ?a18 ?l18 ?c18 ?k18 ?a19 ?l19 ?c19 ?k19 ?a20 ?l20 ?c20 ?k20 ?a21 ?l21 ?c21 ?k21 ?z0 ?z1 ?z2 ?z3 ?z4 ?z5 ?z6 ?z7 ?z8 ?z9 ?z10 ?z11 ?z12 ?z13 ?z14
    (case a0 => k_is)
    (case l0 => k_is)
    (case c0 => k_is)
    (case k0 => k_is)
    (case a1 => k_is)
    (case l1 => k_is)
    (case c1 => k_is)
    (case k1 => k_is)
    (case a2 => k_is)
    (case l2 => k_is)
    (case c2 => k_is)
    (case k2 => k_is)
    (case a3 => k_is)
    (case l3 => k_is)
    (case c3 => k_is)
    (case k3 => k_is)
    (case a4 => k_is)
    (case l4 => k_is)
    (case c4 => k_is)
    (case k4 => k_is)
    (case a5 => k_is)
    (case l5 => k_is)
    (case c5 => k_is)
    (case k5 => k_is)
    (case a6 => k_is)
    (case l6 => k_is)
    (case c6 => k_is)
    (case k6 => k_is)
    (case a7 => k_is)
    (case l7 => k_is)
    (case c7 => k_is)
    (case k7 => k_is)
    (case a8 => k_is)
    (case l8 => k_is)
    (case c8 => k_is)
    (case k8 => k_is)
    (case a9 => k_is)
    (case l9 => k_is)
    (case c9 => k_is)
    (case k9 => k_is)
    (case a10 => k_is)
    (case l10 => k_is)
    (case c10 => k_is)
    (case k10 => k_is)
    (case a11 => k_is)
    (case l11 => k_is)
    (case c11 => k_is)
    (case k11 => k_is)
    (case a12 => k_is)
    (case l12 => k_is)
    (case c12 => k_is)
    (case k12 => k_is)
    (case a13 => k_is)
    (case l13 => k_is)
    (case c13 => k_is)
    (case k13 => k_is)
    (case a14 => k_is)
    (case l14 => k_is)
    (case c14 => k_is)
    (case k14 => k_is)
    (case a15 => k_is)
    (case l15 => k_is)
    (case c15 => k_is)
    (case k15 => k_is)
    (case a16 => k_is)
    (case l16 => k_is)
    (case c16 => k_is)
    (case k16 => k_is)
    (case a17 => k_is)
    (case l17 => k_is)
    (case c17 => k_is)
    (case k17 => k_is)
    (case a18 => k_is)
    (case l18 => k_is)
    (case c18 => k_is)
    (case k18 => k_is)
    (case a19 => k_is)
    (case l19 => k_is)
    (case c19 => k_is)
    (case k19 => k_is)
    (case a20 => k_is)
    (case l20 => k_is)
    (case c20 => k_is)
    (case k20 => k_is)
    (case a21 => k_is)
    (case l21 => k_is)
    (case c21 => k_is)
    (case k21 => k_is)
    (case z0 => k_is)
    (case z1 => k_is)
    (case z2 => k_is)
    (case z3 => k_is)
    (case z4 => k_is)
    (case z5 => k_is)
    (case z6 => k_is)
    (case z7 => k_is)
    (case z8 => k_is)
    (case z9 => k_is)
    (case z10 => k_is)
    (case z11 => k_is)
    (case z12 => k_is)
    (case z13 => k_is)
    (case z14 => k_is)
