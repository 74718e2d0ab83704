import PyProof.Rows.All
import Wide.All
import OpenK.AllK
import Wide.FinOn
import HandS.ForMost
import HandS.Flow
import HandS.TupAny
import HandS.TupMul
import HandS.IsInst
import HandS.Deep
import PyProof.P3In
import HandS.SortInts
import HandS.Conv
import PyProof.ReprRoads
import HandS.Walk
import HandS.Zip
import KE.GoesMore
import KE.DataMinMax
import HandS.SortKw
import KE.GoesEnum
import HandS.More
import HandS.Set
import HandS.SetFor
import HandS.Strs
import HandS.Style
import PySem.Challenge.RW_viewturns_k01_names_and_values
set_option Elab.async false
set_option linter.all false
set_option maxRecDepth 100000
set_option maxHeartbeats 4000000
/-! DL: values as trees over the layer HandS: what a piece of text computes, as a term over trees, and that it computes it. -/
namespace DL
open PySem L2

/-- a value with all that hangs below it -/
inductive D where
  | non | bl (b : Bool) | int (i : Int) | str (x : Str)
  | lst (xs : List D) | tup (xs : List D) | dct (kvs : List (D × D))
  | obj (C : Addr) (fs : List (Str × D)) | raw (v : V) | gen | scr (ns : List Int)

def kD : Key → D
  | .inl i => .int i
  | .inr x => .str x

/-! ### the source of draws: a list of a list of ints and two ints, known by what it is -/
def cellsO (c : Addr) : Heap → Prop := fun h => ∃ (its : List Value) (n : Nat) (ns : List Int), PyProof.Rows.IntsAre its ns ∧ ns ≠ [] ∧ (∀ x ∈ ns, 0 ≤ x) ∧ ns.length ≤ 63 ∧ h.get? c = some { cls := .type "list", data := .seq its.toArray n }
def genO (g c : Addr) : Heap → Prop := fun h => ∃ (i m : Int) (t u : Tok) (n : Nat), 0 ≤ i ∧ 0 ≤ m ∧ m < 2147483647 ∧ h.get? g = some { cls := .type "list", data := .seq #[.ref c, .int i t, .int m u] n }
def GenAt (H : Hp) (g c : Addr) : Prop := H g = some (.ext (genO g c)) ∧ H c = some (.ext (cellsO c)) ∧ g ≠ c

/-- the law's own list of ints -/
def ScrAt (K : PySem.W.Frag) (H : Hp) (a : Addr) (xs : List V) : Prop := (∃ o, H a = some (.frz o (.lst xs))) ∨ ∃ (o : Obj) (its : Array Value) (n : Nat), K.lookup a = some o ∧ o.cls = .type "list" ∧ o.dict = none ∧ o.data = .seq its n ∧ its.size ≤ sizeLine ∧ Vals xs its.toList
theorem ScrAt.sql {K : PySem.W.Frag} {H : Hp} {a : Addr} {xs : List V} (h : ScrAt K H a xs) : SqL K H a xs := by
  rcases h with h | h
  · exact .inl (.inr h)
  · exact .inr h
theorem ScrAt.mono {K : PySem.W.Frag} {H H' : Hp} {a : Addr} {xs : List V} (e : Same H H') (h : ScrAt K H a xs) : ScrAt K H' a xs := by
  rcases h with ⟨o, h⟩ | h
  · exact .inl ⟨o, e _ _ h⟩
  · exact .inr h

mutual
inductive Rep (K : PySem.W.Frag) (H : Hp) : V → D → Prop
  | non : Rep K H .non .non
  | bl (b : Bool) : Rep K H (.bl b) (.bl b)
  | int (i : Int) : Rep K H (.int i) (.int i)
  | str (x : Str) : Rep K H (.str x) (.str x)
  | lst {a : Addr} {vs : List V} {ds : List D} : H a = some (.lst vs) → RepL K H vs ds → Rep K H (.ref a) (.lst ds)
  | tup {a : Addr} {vs : List V} {ds : List D} : SqT K H a vs → RepL K H vs ds → Rep K H (.ref a) (.tup ds)
  | dct {a : Addr} {ks : List (Key × V)} {kvs : List (D × D)} : H a = some (.dK ks) → RepK K H ks kvs → Rep K H (.ref a) (.dct kvs)
  | raw (v : V) : Rep K H v (.raw v)
  | gen {g c : Addr} : GenAt H g c → Rep K H (.ref g) .gen
  | scr {a : Addr} {ns : List Int} : ScrAt K H a (ns.map V.int) → Rep K H (.ref a) (.scr ns)
inductive RepL (K : PySem.W.Frag) (H : Hp) : List V → List D → Prop
  | nil : RepL K H [] []
  | cons {v : V} {d : D} {vs : List V} {ds : List D} : Rep K H v d → RepL K H vs ds → RepL K H (v :: vs) (d :: ds)
inductive RepK (K : PySem.W.Frag) (H : Hp) : List (Key × V) → List (D × D) → Prop
  | nil : RepK K H [] []
  | cons {k : Key} {v : V} {d : D} {ks : List (Key × V)} {kvs : List (D × D)} : Rep K H v d → RepK K H ks kvs → RepK K H ((k, v) :: ks) ((kD k, d) :: kvs)
end

theorem sqT_same {K : PySem.W.Frag} {H H' : Hp} {a : Addr} {xs : List V} (e : Same H H') (h : SqT K H a xs) : SqT K H' a xs := by
  rcases h with (h | ⟨o, h⟩) | h
  · exact .inl (.inl (e _ _ h))
  · exact .inl (.inr ⟨o, e _ _ h⟩)
  · exact .inr h
section
variable {K : PySem.W.Frag} {H H' : Hp}
mutual
theorem Rep.mono (e : Same H H') : ∀ {v : V} {d : D}, Rep K H v d → Rep K H' v d
  | _, _, .non => .non
  | _, _, .bl b => .bl b
  | _, _, .int i => .int i
  | _, _, .str x => .str x
  | _, _, .lst h r => .lst (e _ _ h) (RepL.mono e r)
  | _, _, .tup h r => .tup (sqT_same e h) (RepL.mono e r)
  | _, _, .dct h r => .dct (e _ _ h) (RepK.mono e r)
  | _, _, .raw v => .raw v
  | _, _, .gen h => .gen ⟨e _ _ h.1, e _ _ h.2.1, h.2.2⟩
  | _, _, .scr h => .scr (h.mono e)
theorem RepL.mono (e : Same H H') : ∀ {vs : List V} {ds : List D}, RepL K H vs ds → RepL K H' vs ds
  | _, _, .nil => .nil
  | _, _, .cons r t => .cons (Rep.mono e r) (RepL.mono e t)
theorem RepK.mono (e : Same H H') : ∀ {ks : List (Key × V)} {kvs : List (D × D)}, RepK K H ks kvs → RepK K H' ks kvs
  | _, _, .nil => .nil
  | _, _, .cons r t => .cons (Rep.mono e r) (RepK.mono e t)
end
theorem RepL.length : ∀ {vs : List V} {ds : List D}, RepL K H vs ds → vs.length = ds.length
  | _, _, .nil => rfl
  | _, _, .cons _ t => by simp [RepL.length t]
theorem RepL.append : ∀ {vs ws : List V} {ds es : List D}, RepL K H vs ds → RepL K H ws es → RepL K H (vs ++ ws) (ds ++ es)
  | _, _, _, _, .nil, s => s
  | _, _, _, _, .cons r t, s => .cons r (RepL.append t s)
theorem RepL.get : ∀ {vs : List V} {ds : List D} {i : Nat} {d : D}, RepL K H vs ds → ds[i]? = some d → ∃ v, vs[i]? = some v ∧ Rep K H v d
  | _, _, _, _, .nil, e => by simp at e
  | _, _, 0, _, .cons r _, e => by simp at e; subst e; exact ⟨_, rfl, r⟩
  | _, _, i + 1, d, .cons _ t, e => by
    obtain ⟨v, h1, h2⟩ := RepL.get (i := i) (d := d) t (by simpa using e)
    exact ⟨v, by simpa using h1, h2⟩
theorem RepL.getV : ∀ {vs : List V} {ds : List D} {i : Nat} {v : V}, RepL K H vs ds → vs[i]? = some v → ∃ d, ds[i]? = some d ∧ Rep K H v d
  | _, _, _, _, .nil, e => by simp at e
  | _, _, 0, _, .cons r _, e => by simp at e; subst e; exact ⟨_, rfl, r⟩
  | _, _, i + 1, d, .cons _ t, e => by
    obtain ⟨v, h1, h2⟩ := RepL.getV (i := i) (v := d) t (by simpa using e)
    exact ⟨v, by simpa using h1, h2⟩
theorem RepL.take : ∀ {vs : List V} {ds : List D} (n : Nat), RepL K H vs ds → RepL K H (vs.take n) (ds.take n)
  | _, _, 0, _ => .nil
  | _, _, _ + 1, .nil => .nil
  | _, _, n + 1, .cons r t => .cons r (RepL.take n t)
theorem RepL.drop : ∀ {vs : List V} {ds : List D} (n : Nat), RepL K H vs ds → RepL K H (vs.drop n) (ds.drop n)
  | _, _, 0, r => r
  | _, _, _ + 1, .nil => .nil
  | _, _, n + 1, .cons _ t => RepL.drop n t
theorem RepL.set {v : V} {d : D} (r : Rep K H v d) : ∀ {vs : List V} {ds : List D} (i : Nat), RepL K H vs ds → RepL K H (vs.set i v) (ds.set i d)
  | _, _, _, .nil => .nil
  | _, _, 0, .cons _ t => .cons r t
  | _, _, i + 1, .cons q t => .cons q (RepL.set r i t)
theorem RepL.eraseIdx : ∀ {vs : List V} {ds : List D} (i : Nat), RepL K H vs ds → RepL K H (vs.eraseIdx i) (ds.eraseIdx i)
  | _, _, _, .nil => .nil
  | _, _, 0, .cons _ t => t
  | _, _, i + 1, .cons q t => .cons q (RepL.eraseIdx i t)
theorem RepL.isEmpty {vs : List V} {ds : List D} (r : RepL K H vs ds) : vs.isEmpty = ds.isEmpty := by cases r <;> rfl
theorem RepL.dropLast : ∀ {vs : List V} {ds : List D}, RepL K H vs ds → RepL K H vs.dropLast ds.dropLast := fun {vs ds} r => by
  rw [List.dropLast_eq_take, List.dropLast_eq_take, r.length]
  exact r.take _
end

/-! ### the state: what is read alone from here on (F), what stands (H); B and F0: at the def's entry -/
inductive Cell where
  | no | sh (d : D) | ow (d : D) (z : Option Addr)
abbrev Env := List Cell
/-- more is known; nothing that stood is changed; what is newly frozen is new -/
structure Grow (F H F' H' : Hp) : Prop where
  h : Same H H'
  f : Same F F'
  fh : Same F' H'
  nw : ∀ a o, F' a = some o → F a = some o ∨ H a = none
theorem Grow.refl {F H : Hp} (s : Same F H) : Grow F H F H := ⟨Same.refl H, Same.refl F, s, fun _ _ e => .inl e⟩
theorem Grow.trans {F H F1 H1 F2 H2 : Hp} (a : Grow F H F1 H1) (b : Grow F1 H1 F2 H2) : Grow F H F2 H2 :=
  ⟨a.h.trans b.h, a.f.trans b.f, b.fh, fun x o e => by
    rcases b.nw x o e with q | q
    · exact a.nw x o q
    · exact .inr (a.h.free q)⟩
/-- a new object, read alone from here on -/
theorem Grow.new {F H : Hp} (s : Same F H) {p : Addr} (hp : H p = none) (o : HO) : Grow F H (upd F p o) (upd H p o) := by
  have fp : F p = none := s.free hp
  refine ⟨fun b u e => ?_, fun b u e => ?_, fun b u e => ?_, fun b u e => ?_⟩
  · rw [upd_ne (ne_of_none e hp)]; exact e
  · rw [upd_ne (ne_of_none e fp)]; exact e
  · by_cases hb : b = p
    · subst hb; rw [upd_same] at e ⊢; exact e
    · rw [upd_ne hb] at e ⊢; exact s b u e
  · by_cases hb : b = p
    · subst hb; exact .inr hp
    · rw [upd_ne hb] at e; exact .inl e
/-- a new object that may still change -/
theorem Grow.own {F H : Hp} (s : Same F H) {p : Addr} (hp : H p = none) (o : HO) : Grow F H F (upd H p o) := by
  refine ⟨fun b u e => ?_, Same.refl F, fun b u e => ?_, fun _ _ e => .inl e⟩
  · rw [upd_ne (ne_of_none e hp)]; exact e
  · rw [upd_ne (ne_of_none (s b u e) hp)]; exact s b u e
/-- what stands at p that is not frozen is frozen -/
theorem Grow.freeze {F H F' H' : Hp} (g : Grow F H F' H') {p : Addr} {o : HO} (hp : H p = none) (e : H' p = some o) : Grow F H (upd F' p o) H' := by
  refine ⟨g.h, fun b u q => ?_, fun b u q => ?_, fun b u q => ?_⟩
  · by_cases hb : b = p
    · subst hb
      have := g.f b u q
      have z := g.fh b u this
      rw [e] at z
      rw [upd_same, ← z]
    · rw [upd_ne hb]; exact g.f b u q
  · by_cases hb : b = p
    · subst hb; rw [upd_same] at q; rw [← q]; exact e
    · rw [upd_ne hb] at q; exact g.fh b u q
  · by_cases hb : b = p
    · subst hb; exact .inr hp
    · rw [upd_ne hb] at q; exact g.nw b u q

/-- at p stands something that only one holds, its parts read alone -/
def Own (K : PySem.W.Frag) (F H : Hp) (p : Addr) : D → Prop
  | .lst ds => ∃ vs, H p = some (.lst vs) ∧ RepL K F vs ds
  | .dct kvs => ∃ ks, H p = some (.dK ks) ∧ RepK K F ks kvs
  | _ => False
section
variable {K : PySem.W.Frag} {F H F' H' : Hp} {p : Addr} {d : D}
theorem Own.grow (g : Grow F H F' H') (o : Own K F H p d) : Own K F' H' p d := by
  cases d with
  | lst ds => obtain ⟨vs, h, r⟩ := o; exact ⟨vs, g.h _ _ h, r.mono g.f⟩
  | dct kvs => obtain ⟨ks, h, r⟩ := o; exact ⟨ks, g.h _ _ h, r.mono g.f⟩
  | _ => exact o.elim
theorem Own.there (o : Own K F H p d) : ∃ u, H p = some u := by
  cases d with
  | lst ds => obtain ⟨vs, h, r⟩ := o; exact ⟨_, h⟩
  | dct kvs => obtain ⟨ks, h, r⟩ := o; exact ⟨_, h⟩
  | _ => exact o.elim
theorem Own.rep (s : Same F H) (o : Own K F H p d) : Rep K H (.ref p) d := by
  cases d with
  | lst ds => obtain ⟨vs, h, r⟩ := o; exact .lst h (r.mono s)
  | dct kvs => obtain ⟨ks, h, r⟩ := o; exact .dct h (r.mono s)
  | _ => exact o.elim
/-- frozen -/
theorem Own.frz (o : Own K F H p d) (hf : F p = none) : ∃ u, H p = some u ∧ Rep K (upd F p u) (.ref p) d := by
  have sm : ∀ u, Same F (upd F p u) := fun u b w e => by rw [upd_ne (ne_of_none e hf)]; exact e
  cases d with
  | lst ds => obtain ⟨vs, h, r⟩ := o; exact ⟨_, h, .lst upd_same (r.mono (sm _))⟩
  | dct kvs => obtain ⟨ks, h, r⟩ := o; exact ⟨_, h, .dct upd_same (r.mono (sm _))⟩
  | _ => exact o.elim
end

def RepC (K : PySem.W.Frag) (B F H : Hp) (v : Option V) : Cell → Prop
  | .no => True
  | .sh d => ∃ x, v = some x ∧ Rep K F x d
  | .ow d z => ∃ p, v = some (.ref p) ∧ B p = none ∧ F p = none ∧ Own K F H p d ∧ ∀ q, z = some q → p = q
structure REnv (K : PySem.W.Frag) (B F0 F H : Hp) (σ : L2.St) (ρ : Env) : Prop where
  bh : Same B H
  f0 : Same F0 F
  fh : Same F H
  fr : ∀ a o, F a = some o → F0 a = some o ∨ B a = none
  len : σ.length = ρ.length
  cell : ∀ (i : Nat) (c : Cell), ρ[i]? = some c → ∃ v, σ[i]? = some v ∧ RepC K B F H v c
  dis : ∀ (i j : Nat) (d e : D) (z y : Option Addr) (p : Addr), i ≠ j → ρ[i]? = some (.ow d z) → ρ[j]? = some (.ow e y) → σ[i]? = some (some (.ref p)) → σ[j]? ≠ some (some (.ref p))
section
variable {K : PySem.W.Frag} {B F0 F H F' H' : Hp} {σ : L2.St} {ρ : Env}
theorem RepC.grow (bh : Same B H) (g : Grow F H F' H') {v : Option V} {c : Cell} (r : RepC K B F H v c) : RepC K B F' H' v c := by
  cases c with
  | no => trivial
  | sh d => obtain ⟨x, e, r⟩ := r; exact ⟨x, e, r.mono g.f⟩
  | ow d z =>
    obtain ⟨p, e, hb, hf, o, hz⟩ := r
    refine ⟨p, e, hb, ?_, o.grow g, hz⟩
    cases q : F' p with
    | none => rfl
    | some u =>
      obtain ⟨w, hw⟩ := o.there
      rcases g.nw p u q with z | z
      · rw [hf] at z; cases z
      · rw [hw] at z; cases z
theorem REnv.grow (r : REnv K B F0 F H σ ρ) (g : Grow F H F' H') : REnv K B F0 F' H' σ ρ where
  bh := r.bh.trans g.h
  f0 := r.f0.trans g.f
  fh := g.fh
  fr := fun a o e => by
    rcases g.nw a o e with q | q
    · exact r.fr a o q
    · exact .inr (r.bh.free q)
  len := r.len
  cell := fun i c e => let ⟨v, h1, h2⟩ := r.cell i c e; ⟨v, h1, h2.grow r.bh g⟩
  dis := r.dis
theorem REnv.gr (r : REnv K B F0 F H σ ρ) : Grow F H F H := Grow.refl r.fh
end

/-- a value read alone; or one's own -/
def Bor (K : PySem.W.Frag) (F H : Hp) (v : V) (d : D) : Prop := Rep K F v d ∨ ∃ p, v = .ref p ∧ Own K F H p d
section
variable {K : PySem.W.Frag} {F H F' H' : Hp} {v : V} {d : D}
theorem Bor.grow (g : Grow F H F' H') (b : Bor K F H v d) : Bor K F' H' v d := by
  rcases b with b | ⟨p, e, o⟩
  · exact .inl (b.mono g.f)
  · exact .inr ⟨p, e, o.grow g⟩
theorem Bor.rep (s : Same F H) (b : Bor K F H v d) : Rep K H v d := by
  rcases b with b | ⟨p, rfl, o⟩
  · exact b.mono s
  · exact o.rep s
theorem Bor.lst (s : Same F H) {ds : List D} (b : Bor K F H v (.lst ds)) : ∃ a vs, v = .ref a ∧ H a = some (.lst vs) ∧ RepL K F vs ds := by
  rcases b with b | ⟨p, rfl, vs, h, r⟩
  · cases b with
    | lst h r => exact ⟨_, _, rfl, s _ _ h, r⟩
  · exact ⟨p, vs, rfl, h, r⟩
theorem Bor.tup (s : Same F H) {ds : List D} (b : Bor K F H v (.tup ds)) : ∃ a vs, v = .ref a ∧ SqT K H a vs ∧ RepL K F vs ds := by
  rcases b with b | ⟨p, rfl, o⟩
  · cases b with
    | tup h r => exact ⟨_, _, rfl, sqT_same s h, r⟩
  · exact o.elim
theorem Bor.int {i : Int} (b : Bor K F H v (.int i)) : v = .int i := by
  rcases b with b | ⟨p, rfl, o⟩
  · cases b; rfl
  · exact o.elim
theorem Bor.str {x : Str} (b : Bor K F H v (.str x)) : v = .str x := by
  rcases b with b | ⟨p, rfl, o⟩
  · cases b; rfl
  · exact o.elim
theorem Bor.bl {x : Bool} (b : Bor K F H v (.bl x)) : v = .bl x := by
  rcases b with b | ⟨p, rfl, o⟩
  · cases b; rfl
  · exact o.elim
theorem Bor.non (b : Bor K F H v .non) : v = .non := by
  rcases b with b | ⟨p, rfl, o⟩
  · cases b; rfl
  · exact o.elim
end
/-- a value with its flag: true: new, and one's own -/
def Val (K : PySem.W.Frag) (F H : Hp) (H0 : Hp) (v : V) (r : D × Bool) : Prop :=
  if r.2 = true then ∃ p, v = .ref p ∧ H0 p = none ∧ F p = none ∧ Own K F H p r.1 else Rep K F v r.1

/-! ### computations -/
structure Xn where
  cls : Addr
  fs : List (Str × D)
abbrev M (α : Type) := (α → Prop) → (Xn → Prop) → Prop
def ret {α : Type} (a : α) : M α := fun Q _ => Q a
def fail {α : Type} : M α := fun _ _ => False
def bnd {α β : Type} (m : M α) (f : α → M β) : M β := fun Q E => m (fun a => f a Q E) E
end DL

namespace DL
open PySem L2

/-! ### trees as the library's data -/
mutual
def D.py : D → Option PyData
  | .non => some .none
  | .bl b => some (.bool b)
  | .int i => some (.int i)
  | .str x => some (.str x)
  | .lst ds => (pyL ds).map .list
  | .tup ds => (pyL ds).map .tuple
  | _ => none
def pyL : List D → Option (List PyData)
  | [] => some []
  | d :: ds => match D.py d, pyL ds with
    | some p, some ps => some (p :: ps)
    | _, _ => none
end
section
variable {K : PySem.W.Frag} {H : Hp}
mutual
theorem Rep.dp : ∀ {d : D} {v : V} {p : PyData}, Rep K H v d → d.py = some p → Dp K H v p
  | .non, _, _, .non, e => by simp only [D.py, Option.some.injEq] at e; subst e; exact .non
  | .bl b, _, _, .bl _, e => by simp only [D.py, Option.some.injEq] at e; subst e; exact .bl b
  | .int i, _, _, .int _, e => by simp only [D.py, Option.some.injEq] at e; subst e; exact .int i
  | .str x, _, _, .str _, e => by simp only [D.py, Option.some.injEq] at e; subst e; exact .str x
  | .lst ds, _, _, .lst h r, e => by
    simp only [D.py] at e
    cases q : pyL ds with
    | none => rw [q] at e; cases e
    | some ps => rw [q] at e; simp only [Option.map_some, Option.some.injEq] at e; subst e; exact .lst (SqL.of h) (RepL.dp r q)
  | .tup ds, _, _, .tup h r, e => by
    simp only [D.py] at e
    cases q : pyL ds with
    | none => rw [q] at e; cases e
    | some ps => rw [q] at e; simp only [Option.map_some, Option.some.injEq] at e; subst e; exact .tup h (RepL.dp r q)
  | .dct _, _, _, _, e => by simp [D.py] at e
  | .obj _ _, _, _, _, e => by simp [D.py] at e
  | .raw _, _, _, _, e => by simp [D.py] at e
  | .gen, _, _, _, e => by simp [D.py] at e
  | .scr _, _, _, _, e => by simp [D.py] at e
theorem RepL.dp : ∀ {ds : List D} {vs : List V} {ps : List PyData}, RepL K H vs ds → pyL ds = some ps → DpAll K H vs ps
  | [], _, _, .nil, e => by simp only [pyL, Option.some.injEq] at e; subst e; exact .nil
  | d :: ds, _, _, .cons r t, e => by
    simp only [pyL] at e
    cases q : D.py d with
    | none => rw [q] at e; simp at e
    | some p =>
      cases q2 : pyL ds with
      | none => rw [q, q2] at e; simp at e
      | some ps' =>
        rw [q, q2] at e
        simp only [Option.some.injEq] at e
        subst e
        exact .cons (Rep.dp r q) (RepL.dp t q2)
end
end

/-! ### truth -/
def truM : D → M Bool
  | .non => ret false
  | .bl b => ret b
  | .int i => ret (i != 0)
  | .str x => fun Q _ => x.length ≤ sizeLine ∧ Q ((x.length : Int) != 0)
  | .lst ds => ret (!ds.isEmpty)
  | .tup ds => ret (!ds.isEmpty)
  | .dct kvs => ret (!kvs.isEmpty)
  | _ => fail
theorem RepK.isEmpty {K : PySem.W.Frag} {H : Hp} {vs : List (Key × V)} {ds : List (D × D)} (r : RepK K H vs ds) : vs.isEmpty = ds.isEmpty := by cases r <;> rfl
theorem truM_ok {K : PySem.W.Frag} {H : Hp} {v : V} {d : D} (r : Rep K H v d) {Q : Bool → Prop} {E : Xn → Prop} (h : truM d Q E) : ∃ k, TruV K v H k ∧ Q k := by
  cases r with
  | non => exact ⟨false, rfl, h⟩
  | bl b => exact ⟨b, rfl, h⟩
  | int i => exact ⟨_, rfl, h⟩
  | str x => exact ⟨_, ⟨h.1, rfl⟩, h.2⟩
  | lst h1 r1 => exact ⟨_, .inl ⟨_, SqL.of h1, rfl⟩, by rw [r1.isEmpty]; exact h⟩
  | tup h1 r1 => exact ⟨_, .inr (.inl ⟨_, h1, rfl⟩), by rw [r1.isEmpty]; exact h⟩
  | dct h1 r1 => exact ⟨_, .inr (.inr ⟨_, h1, rfl⟩), by rw [r1.isEmpty]; exact h⟩
  | raw v => exact (show False from h).elim
  | gen h1 => exact (show False from h).elim
  | scr h1 => exact (show False from h).elim

/-! ### operators -/
def binM : Operator → D → D → M (D × Bool)
  | .Add, .int i, .int j => ret (.int (i + j), false)
  | .Add, .str a, .str b => fun Q _ => a.length + b.length ≤ sizeLine ∧ Q (.str (a ++ b), false)
  | .Add, .lst xs, .lst ys => fun Q _ => xs.length + ys.length ≤ sizeLine ∧ Q (.lst (xs ++ ys), true)
  | .Add, .tup xs, .tup ys => fun Q _ => xs.length + ys.length ≤ sizeLine ∧ Q (.tup (xs ++ ys), false)
  | .Sub, .int i, .int j => ret (.int (i - j), false)
  | .Mult, .int i, .int j => fun Q _ => CMul i j ∧ Q (.int (i * j), false)
  | .Mult, .tup xs, .int k => fun Q _ => xs ≠ [] ∧ 2 ≤ k ∧ k ≤ 1000 ∧ xs.length ≤ 1000 ∧ Q (.tup (List.replicate k.toNat xs).flatten, false)
  | .Mult, .lst xs, .int k => fun Q _ => (-(2 ^ 63) ≤ k ∧ k < 2 ^ 63 ∧ xs.length * k.toNat ≤ sizeLine) ∧ Q (.lst (List.replicate k.toNat xs).flatten, true)
  | .Mult, .str x, .int k => fun Q _ => MulOk x k ∧ Q (.str (Txt.mul x k), false)
  | .FloorDiv, .int i, .int j => fun Q _ => CDiv i j ∧ Q (.int (i / j), false)
  | .Mod, .int i, .int j => fun Q _ => 0 < j ∧ Q (.int (i % j), false)
  | .Pow, .int i, .int j => fun Q _ => CPow i j ∧ Q (.int (i ^ j.toNat), false)
  | _, _, _ => fail
/-- an operation on borrowed values, by what it gives -/
def r2 (K : PySem.W.Frag) (m : D → D → M (D × Bool)) : R2 := fun x y H Q => ∃ F dx dy Q2 E, Same F H ∧ Bor K F H x dx ∧ Bor K F H y dy ∧ m dx dy Q2 E ∧
  ∀ v F' H' r, Grow F H F' H' → Val K F' H' H v r → Q2 r → Q v H'
section
variable {K : PySem.W.Frag} {F H F' H' H0 : Hp} {v : V}
theorem Val.of {d : D} (r : Rep K F v d) : Val K F H H0 v (d, false) := by
  unfold Val
  rw [if_neg (show ¬ ((d, false).2 = true) from Bool.false_ne_true)]
  exact r
theorem Val.own {d : D} {p : Addr} (h0 : H0 p = none) (hf : F p = none) (o : Own K F H p d) : Val K F H H0 (.ref p) (d, true) := by
  unfold Val
  rw [if_pos rfl]
  exact ⟨p, rfl, h0, hf, o⟩
theorem Own.mkL {p : Addr} {vs : List V} {ds : List D} (h : H p = some (.lst vs)) (r : RepL K F vs ds) : Own K F H p (.lst ds) := ⟨vs, h, r⟩
theorem RepL.rep {vs : List V} {ds : List D} (r : RepL K H vs ds) : ∀ n : Nat, RepL K H (List.replicate n vs).flatten (List.replicate n ds).flatten
  | 0 => .nil
  | n + 1 => by
    rw [List.replicate_succ, List.replicate_succ, List.flatten_cons, List.flatten_cons]
    exact r.append (RepL.rep r n)
/-- a new list of one's own -/
theorem new_own {Q : VK} {Q2 : D × Bool → Prop} {vs : List V} {ds : List D} (s : Same F H) (r : RepL K F vs ds) (q : Q2 (.lst ds, true)) (k : ∀ v F' H' r, Grow F H F' H' → Val K F' H' H v r → Q2 r → Q v H') : ∀ p, H p = none → Q (.ref p) (upd H p (.lst vs)) :=
  fun p hp => k _ F _ _ (Grow.own s hp _) (Val.own (d := .lst ds) hp (s.free hp) (Own.mkL upd_same r)) q
theorem new_tup {Q : VK} {Q2 : D × Bool → Prop} {vs : List V} {ds : List D} (s : Same F H) (r : RepL K F vs ds) (q : Q2 (.tup ds, false)) (k : ∀ v F' H' r, Grow F H F' H' → Val K F' H' H v r → Q2 r → Q v H') : ∀ p, H p = none → Q (.ref p) (upd H p (.tup vs)) :=
  fun p hp => k _ _ _ _ (Grow.new s hp _) (Val.of (.tup (SqT.of upd_same) (r.mono (Grow.new s hp _).f))) q
end
theorem op_bin {X : Cx} (op : Operator) : OpR X (binaryOp op) (r2 X.K (binM op)) := by
  intro pins s σ H x y v u Q I rx ry h
  obtain ⟨F, dx, dy, Q2, E, sm, bx, by_, h, k⟩ := h
  have same : ∀ {z : V} {d : D}, Rep X.K F z d → Q2 (d, false) → Q z H := fun r q => k _ F H _ (Grow.refl sm) (Val.of r) q
  unfold binM at h
  split at h
  · rename_i i j
    cases bx.int; cases by_.int
    exact op_add pins s σ H _ _ v u Q I rx ry ⟨_, _, rfl, rfl, same (.int _) h⟩
  · rename_i a b
    cases bx.str; cases by_.str
    exact op_add_str pins s σ H _ _ v u Q I rx ry ⟨_, _, rfl, rfl, h.1, same (.str _) h.2⟩
  · rename_i xs ys
    obtain ⟨a, vs, rfl, ha, ra⟩ := bx.lst sm
    obtain ⟨b, ws, rfl, hb, rb⟩ := by_.lst sm
    exact op_cat pins s σ H _ _ v u Q I rx ry ⟨_, _, _, _, rfl, rfl, ha, hb, by rw [ra.length, rb.length]; exact h.1, new_own sm (ra.append rb) h.2 k⟩
  · rename_i xs ys
    obtain ⟨a, vs, rfl, ha, ra⟩ := bx.tup sm
    obtain ⟨b, ws, rfl, hb, rb⟩ := by_.tup sm
    refine op_catA pins s σ H _ _ v u Q I rx ry ⟨_, _, _, _, rfl, rfl, ha, hb, by rw [ra.length, rb.length]; exact h.1, fun e => ?_, fun e e2 => ?_, fun e e2 => new_tup sm (ra.append rb) h.2 k⟩
    · subst e
      cases ra
      rcases by_ with q | ⟨_, _, o⟩
      · exact same q h.2
      · exact o.elim
    · subst e2
      cases rb
      have h2 := h.2
      rw [List.append_nil] at h2
      rcases bx with q | ⟨_, _, o⟩
      · exact same q h2
      · exact o.elim
  · rename_i i j
    cases bx.int; cases by_.int
    exact op_sub pins s σ H _ _ v u Q I rx ry ⟨_, _, rfl, rfl, same (.int _) h⟩
  · rename_i i j
    cases bx.int; cases by_.int
    exact op_mul pins s σ H _ _ v u Q I rx ry ⟨_, _, rfl, rfl, h.1, same (.int _) h.2⟩
  · rename_i xs i
    cases by_.int
    obtain ⟨a, vs, rfl, ha, ra⟩ := bx.tup sm
    obtain ⟨h1, h2, h3, h4, h5⟩ := h
    refine op_repT pins s σ H _ _ v u Q I rx ry ⟨_, _, _, rfl, rfl, ha, fun e => ?_, h2, h3, by rw [ra.length]; exact h4, new_tup sm (ra.rep _) h5 k⟩
    subst e; cases ra; exact h1 rfl
  · rename_i xs i
    cases by_.int
    obtain ⟨a, vs, rfl, ha, ra⟩ := bx.lst sm
    obtain ⟨⟨h1, h2, h3⟩, h5⟩ := h
    exact op_rep pins s σ H _ _ v u Q I rx ry ⟨_, _, _, rfl, rfl, ha, h1, h2, by rw [ra.length]; exact h3, new_own sm (ra.rep _) h5 k⟩
  · rename_i z i
    cases bx.str; cases by_.int
    obtain ⟨t, rfl⟩ := rx
    obtain ⟨t', rfl⟩ := ry
    exact PySem.SB.mul h.1 fun t'' tk => ⟨.str _, H, I.tok _, ⟨_, rfl⟩, same (.str _) h.2⟩
  · rename_i i j
    cases bx.int; cases by_.int
    exact op_fdiv pins s σ H _ _ v u Q I rx ry ⟨_, _, rfl, rfl, h.1, same (.int _) h.2⟩
  · rename_i i j
    cases bx.int; cases by_.int
    exact op_mod pins s σ H _ _ v u Q I rx ry ⟨_, _, rfl, rfl, h.1, same (.int _) h.2⟩
  · rename_i i j
    cases bx.int; cases by_.int
    exact op_pow pins s σ H _ _ v u Q I rx ry ⟨_, _, rfl, rfl, h.1, same (.int _) h.2⟩
  · exact h.elim
end DL

namespace DL
open PySem L2

/-! ### flat values -/
def fl : D → Option PyData
  | .non => some .none
  | .bl b => some (.bool b)
  | .int i => some (.int i)
  | .str x => some (.str x)
  | _ => none
def flL : List D → Option (List PyData)
  | [] => some []
  | d :: ds => match fl d, flL ds with
    | some p, some ps => some (p :: ps)
    | _, _ => none
theorem fl_py {d : D} {p : PyData} (h : fl d = some p) : d.py = some p := by
  cases d <;> simp only [fl] at h <;> first | (simp only [D.py]; exact h) | cases h
section
variable {K : PySem.W.Frag} {H : Hp}
theorem fl_flat {d : D} {v : V} {p : PyData} (r : Rep K H v d) (h : fl d = some p) : flatV v = true := by
  cases r <;> simp only [fl] at h <;> first | rfl | cases h
theorem eqV_eqv {d e : D} {v u : V} {p q : PyData} (r : Rep K H v d) (r' : Rep K H u e) (h : fl d = some p) (h' : fl e = some q) : eqV v u = PyData.eqv p q := by
  cases r <;> simp only [fl, Option.some.injEq] at h <;> first | cases h | skip
  all_goals (try subst h)
  all_goals (cases r' <;> simp only [fl, Option.some.injEq] at h' <;> first | cases h' | skip)
  all_goals (try subst h')
  all_goals (simp only [eqV, PyData.eqv])
theorem flL_flat : ∀ {ds : List D} {vs : List V} {ps : List PyData}, RepL K H vs ds → flL ds = some ps → vs.all flatV = true
  | [], _, _, .nil, _ => rfl
  | d :: ds, _, _, .cons r t, h => by
    simp only [flL] at h
    cases q : fl d with
    | none => rw [q] at h; simp at h
    | some p =>
      cases q2 : flL ds with
      | none => rw [q, q2] at h; simp at h
      | some ps' => rw [List.all_cons, fl_flat r q, flL_flat t q2]; rfl
theorem inV_any {d : D} {v : V} {p : PyData} (r : Rep K H v d) (h : fl d = some p) : ∀ {ds : List D} {vs : List V} {ps : List PyData}, RepL K H vs ds → flL ds = some ps → inV v vs = ps.any fun z => PyData.eqv z p
  | [], _, _, .nil, h' => by simp only [flL, Option.some.injEq] at h'; subst h'; rfl
  | e :: ds, _, _, .cons r' t, h' => by
    simp only [flL] at h'
    cases q : fl e with
    | none => rw [q] at h'; simp at h'
    | some p' =>
      cases q2 : flL ds with
      | none => rw [q, q2] at h'; simp at h'
      | some ps' =>
        rw [q, q2] at h'
        simp only [Option.some.injEq] at h'
        subst h'
        have ih := inV_any r h t q2
        unfold inV at ih ⊢
        rw [List.any_cons, List.any_cons, eqV_eqv r' r q h, ih]
end

/-! ### comparisons -/
def eqM (x y : D) : M Bool := fun Q _ => match fl x, fl y with
  | some p, some q => Q (PyData.eqv p q)
  | _, _ => match x.py, y.py with
    | some p, some q => SeqAt.shaped p = true ∧ SeqAt.shaped q = true ∧ Q (PyData.eqv p q)
    | _, _ => match x, y with
      | .lst xs, .lst ys => xs.length ≠ ys.length ∧ Q false
      | _, _ => False
def inStr (a b : Str) : Bool := !(Builtin.Str.occurrences b a 0 b.length 1).isEmpty
def inM (x : D) (ys : List D) : M Bool := fun Q _ => match fl x, flL ys with
  | some p, some ps => Q (ps.any fun z => PyData.eqv z p)
  | _, _ => match x.py, pyL ys with
    | some p, some ps => SeqAt.shaped p = true ∧ SeqAt.shaped (.list ps) = true ∧ Q (ps.any fun z => PyData.eqv z p)
    | _, _ => False
def isNon : D → M Bool
  | .non => ret true
  | .raw _ => fail
  | _ => ret false
def cmpM : CmpOp → D → D → M Bool
  | .Eq, x, y => eqM x y
  | .NotEq, x, y => bnd (eqM x y) fun b => ret (!b)
  | .Lt, .int i, .int j => ret (decide (i < j))
  | .LtE, .int i, .int j => ret (decide (i ≤ j))
  | .Gt, .int i, .int j => ret (decide (j < i))
  | .GtE, .int i, .int j => ret (decide (j ≤ i))
  | .Is, x, .non => isNon x
  | .IsNot, x, .non => bnd (isNon x) fun b => ret (!b)
  | .In, .str a, .str b => ret (inStr a b)
  | .NotIn, .str a, .str b => ret (!inStr a b)
  | .In, x, .tup ys => inM x ys
  | .NotIn, x, .tup ys => bnd (inM x ys) fun b => ret (!b)
  | .In, x, .lst ys => inM x ys
  | .NotIn, x, .lst ys => bnd (inM x ys) fun b => ret (!b)
  | _, _, _ => fail
def rb (K : PySem.W.Frag) (m : D → D → M Bool) : R2 := fun x y H Q => ∃ F dx dy Q2 E, Same F H ∧ Bor K F H x dx ∧ Bor K F H y dy ∧ m dx dy Q2 E ∧ ∀ b, Q2 b → Q (.bl b) H

section
variable {X : Cx}
theorem eq_ok (hu : X.A.units + 64 < cLine) {dx dy : D} {Q2 : Bool → Prop} {E : Xn → Prop} {pins : List (Addr × Obj)} {s : Shared} {σ : L2.St} {H : Hp} {x y : V} {v u : Value} {Q : VK} (I : Inv X pins σ H s) (rx : RelV x v) (ry : RelV y u)
    (r1 : Rep X.K H x dx) (r2 : Rep X.K H y dy) (h : eqM dx dy Q2 E) (k : ∀ b, Q2 b → Q (.bl b) H) : wpAny (model X.prog X.w) X.A (compareOp .Eq v u) (EP X pins σ Q) X.xe s := by
  unfold eqM at h
  split at h
  · rename_i p q e1 e2
    by_cases hs : scal x y = true
    · refine op_eq pins s σ H x y v u Q I rx ry ⟨hs, ?_⟩
      have e3 : decide (x = y) = PyData.eqv p q := by
        rw [← eqV_eqv r1 r2 e1 e2]
        cases x <;> cases y <;> first | (exact absurd hs Bool.false_ne_true) | (simp only [eqV, dec_int, dec_bl, dec_str]) | (simp only [eqV, decide_eq_false_iff_not]; first | (intro z; cases z) | skip) | skip
        all_goals first | rfl | (simp [eqV]) | skip
        all_goals (cases r1; simp [fl] at e1)
      rw [e3]
      exact k _ h
    · refine op_eqD hu pins s σ H x y v u Q I rx ry ⟨p, q, r1.dp (fl_py e1), r2.dp (fl_py e2), ?_, ?_, k _ h⟩
      · cases r1 <;> simp only [fl, Option.some.injEq] at e1 <;> first | cases e1 | skip
        all_goals first | subst e1 | skip
        all_goals first | rfl | skip
        all_goals (cases r2 <;> simp only [fl, Option.some.injEq] at e2 <;> first | cases e2 | skip)
        all_goals (exact absurd rfl hs)
      · cases r2 <;> simp only [fl, Option.some.injEq] at e2 <;> first | cases e2 | skip
        all_goals first | subst e2 | skip
        all_goals first | rfl | skip
        all_goals (cases r1 <;> simp only [fl, Option.some.injEq] at e1 <;> first | cases e1 | skip)
        all_goals (exact absurd rfl hs)
  · split at h
    · rename_i p q e1 e2
      exact op_eqD hu pins s σ H x y v u Q I rx ry ⟨p, q, r1.dp e1, r2.dp e2, h.1, h.2.1, k _ h.2.2⟩
    · split at h
      · rename_i xs ys _ _
        obtain ⟨hne, hq⟩ := h
        cases r1 with
        | lst h1 l1 =>
          cases r2 with
          | lst h2 l2 =>
            cases rx
            cases ry
            obtain ⟨its, rv, p1, _⟩ := I.list (SqL.of h1)
            obtain ⟨its2, rv2, p2, _⟩ := I.list (SqL.of h2)
            have n1 := rv.length
            have n2 := rv2.length
            have n3 := l1.length
            have n4 := l2.length
            exact SeqAt.eq_list_lengthsAt p1.isList p2.isList (by rw [bne_iff_ne, List.size_toArray, List.size_toArray]; omega) (Nat.lt_of_le_of_lt (Nat.le_add_right _ 64) hu) ⟨.bl false, H, I, rfl, k _ hq⟩
      · exact h.elim
theorem ne_ok (hu : X.A.units + 64 < cLine) {dx dy : D} {Q2 : Bool → Prop} {E : Xn → Prop} {pins : List (Addr × Obj)} {s : Shared} {σ : L2.St} {H : Hp} {x y : V} {v u : Value} {Q : VK} (I : Inv X pins σ H s) (rx : RelV x v) (ry : RelV y u)
    (r1 : Rep X.K H x dx) (r2 : Rep X.K H y dy) (h : eqM dx dy Q2 E) (k : ∀ b, Q2 b → Q (.bl (!b)) H) : wpAny (model X.prog X.w) X.A (compareOp .NotEq v u) (EP X pins σ Q) X.xe s := by
  unfold eqM at h
  split at h
  · rename_i p q e1 e2
    by_cases hs : scal x y = true
    · refine op_ne pins s σ H x y v u Q I rx ry ⟨hs, ?_⟩
      have e3 : decide (x = y) = PyData.eqv p q := by
        rw [← eqV_eqv r1 r2 e1 e2]
        cases x <;> cases y <;> first | (exact absurd hs Bool.false_ne_true) | (simp only [eqV, dec_int, dec_bl, dec_str]) | (simp only [eqV, decide_eq_false_iff_not]; first | (intro z; cases z) | skip) | skip
        all_goals first | rfl | (simp [eqV]) | skip
        all_goals (cases r1; simp [fl] at e1)
      rw [e3]
      exact k _ h
    · refine op_neD hu pins s σ H x y v u Q I rx ry ⟨p, q, r1.dp (fl_py e1), r2.dp (fl_py e2), ?_, ?_, k _ h⟩
      · cases r1 <;> simp only [fl, Option.some.injEq] at e1 <;> first | cases e1 | skip
        all_goals first | subst e1 | skip
        all_goals first | rfl | skip
        all_goals (cases r2 <;> simp only [fl, Option.some.injEq] at e2 <;> first | cases e2 | skip)
        all_goals (exact absurd rfl hs)
      · cases r2 <;> simp only [fl, Option.some.injEq] at e2 <;> first | cases e2 | skip
        all_goals first | subst e2 | skip
        all_goals first | rfl | skip
        all_goals (cases r1 <;> simp only [fl, Option.some.injEq] at e1 <;> first | cases e1 | skip)
        all_goals (exact absurd rfl hs)
  · split at h
    · rename_i p q e1 e2
      exact op_neD hu pins s σ H x y v u Q I rx ry ⟨p, q, r1.dp e1, r2.dp e2, h.1, h.2.1, k _ h.2.2⟩
    · split at h
      · rename_i xs ys _ _
        obtain ⟨hne, hq⟩ := h
        cases r1 with
        | lst h1 l1 =>
          cases r2 with
          | lst h2 l2 =>
            cases rx
            cases ry
            obtain ⟨its, rv, p1, _⟩ := I.list (SqL.of h1)
            obtain ⟨its2, rv2, p2, _⟩ := I.list (SqL.of h2)
            have n1 := rv.length
            have n2 := rv2.length
            have n3 := l1.length
            have n4 := l2.length
            exact SeqAt.RcNeAt.lists_lengths p1.isList p2.isList (by rw [bne_iff_ne, List.size_toArray, List.size_toArray]; omega) (Nat.lt_of_le_of_lt (Nat.le_add_right _ 64) hu) _ _ _ _ ⟨.bl true, H, I, rfl, k _ hq⟩
      · exact h.elim
theorem canLay_flat : ∀ {ds : List D} {ps : List PyData}, flL ds = some ps → True := fun _ => trivial
theorem in_ok (hu : X.A.units + 65 < cLine) {dx : D} {ys : List D} {Q2 : Bool → Prop} {E : Xn → Prop} {pins : List (Addr × Obj)} {s : Shared} {σ : L2.St} {F H : Hp} {x : V} {p : Addr} {ws : List V} {v u : Value} {Q : VK} (I : Inv X pins σ H s) (rx : RelV x v) (ry : RelV (.ref p) u)
    (r1 : Rep X.K H x dx) (hp : SqL X.K H p ws ∨ SqT X.K H p ws) (r2 : RepL X.K H ws ys) (neg : Bool) (h : inM dx ys Q2 E) (k : ∀ b, Q2 b → Q (.bl (if neg then !b else b)) H) :
    wpAny (model X.prog X.w) X.A (compareOp (if neg = true then .NotIn else .In) v u) (EP X pins σ Q) X.xe s := by
  unfold inM at h
  split at h
  · rename_i q qs e1 e2
    have e3 := inV_any r1 e1 r2 e2
    cases neg with
    | true => exact op_notIn_seq pins s σ H _ _ v u Q I rx ry ⟨p, ws, rfl, hp, fl_flat r1 e1, flL_flat r2 e2, by rw [e3]; exact k _ h⟩
    | false => exact op_in_seq pins s σ H _ _ v u Q I rx ry ⟨p, ws, rfl, hp, fl_flat r1 e1, flL_flat r2 e2, by rw [e3]; exact k _ h⟩
  · split at h
    · rename_i q qs e1 e2
      obtain ⟨h1, h2, h3⟩ := h
      obtain ⟨as, q1⟩ := Dp.reads I q x v (r1.dp e1) rx
      have fin := k _ h3
      rcases hp with hp | hp
      · obtain ⟨bs, q2⟩ := Dp.reads I (.list qs) (.ref p) u (.lst hp (r2.dp e2)) ry
        cases neg with
        | true => exact SeqAt.notIn_list_reads q2 q1 (SeqAt.canLay_of_shaped h2) (SeqAt.canLay_of_shaped h1) (PyProof.Rows.room_in_shaped h1 hu) ⟨.bl _, H, I, rfl, fin⟩
        | false => exact SeqAt.in_list_reads q2 q1 (SeqAt.canLay_of_shaped h2) (SeqAt.canLay_of_shaped h1) (PyProof.Rows.room_in_shaped h1 hu) ⟨.bl _, H, I, rfl, fin⟩
      · obtain ⟨bs, q2⟩ := Dp.reads I (.tuple qs) (.ref p) u (.tup hp (r2.dp e2)) ry
        have h2' : PyData.canLayAll0 qs = true := SeqAt.canLay_of_shaped h2
        cases neg with
        | true => exact SeqAt.notIn_tuple_reads q2 q1 h2' (SeqAt.canLay_of_shaped h1) (PyProof.Rows.room_in_shaped h1 hu) ⟨.bl _, H, I, rfl, fin⟩
        | false => exact SeqAt.in_tuple_reads q2 q1 h2' (SeqAt.canLay_of_shaped h1) (PyProof.Rows.room_in_shaped h1 hu) ⟨.bl _, H, I, rfl, fin⟩
    · exact h.elim
theorem isNon_ok {d : D} {x : V} {H : Hp} (r : Rep X.K H x d) {Q2 : Bool → Prop} {E : Xn → Prop} (h : isNon d Q2 E) : Q2 (decide (x = .non)) := by
  cases r <;> first | exact h | exact h.elim
theorem op_cmp (hu : X.A.units + 65 < cLine) (op : CmpOp) : OpR X (compareOp op) (rb X.K (cmpM op)) := by
  intro pins s σ H x y v u Q I rx ry h
  obtain ⟨F, dx, dy, Q2, E, sm, bx, by_, h, k⟩ := h
  have hu' : X.A.units + 64 < cLine := by omega
  unfold cmpM at h
  split at h
  · exact eq_ok hu' I rx ry (bx.rep sm) (by_.rep sm) h k
  · exact ne_ok hu' I rx ry (bx.rep sm) (by_.rep sm) h fun b q => k _ q
  · cases bx.int; cases by_.int
    exact op_lt pins s σ H _ _ v u Q I rx ry ⟨_, _, rfl, rfl, k _ h⟩
  · cases bx.int; cases by_.int
    exact op_le pins s σ H _ _ v u Q I rx ry ⟨_, _, rfl, rfl, k _ h⟩
  · cases bx.int; cases by_.int
    exact op_gt pins s σ H _ _ v u Q I rx ry ⟨_, _, rfl, rfl, k _ h⟩
  · cases bx.int; cases by_.int
    exact op_ge pins s σ H _ _ v u Q I rx ry ⟨_, _, rfl, rfl, k _ h⟩
  · cases by_.non
    exact op_isN pins s σ H _ _ v u Q I rx ry ⟨rfl, k _ (isNon_ok (bx.rep sm) h)⟩
  · cases by_.non
    exact op_notN pins s σ H _ _ v u Q I rx ry ⟨rfl, k _ (isNon_ok (Q2 := fun b => Q2 (!b)) (bx.rep sm) h)⟩
  · cases bx.str; cases by_.str
    exact op_in_str pins s σ H _ _ v u Q I rx ry ⟨_, _, rfl, rfl, k _ h⟩
  · cases bx.str; cases by_.str
    exact op_notin_str pins s σ H _ _ v u Q I rx ry ⟨_, _, rfl, rfl, k _ h⟩
  · obtain ⟨a, vs, rfl, ha, ra⟩ := by_.tup sm
    exact in_ok (neg := false) (F := F) hu I rx ry (bx.rep sm) (.inr ha) (ra.mono sm) h fun b q => k _ q
  · obtain ⟨a, vs, rfl, ha, ra⟩ := by_.tup sm
    exact in_ok (neg := true) (F := F) hu I rx ry (bx.rep sm) (.inr ha) (ra.mono sm) (Q2 := fun b => Q2 (!b)) h fun b q => k _ q
  · obtain ⟨a, vs, rfl, ha, ra⟩ := by_.lst sm
    exact in_ok (neg := false) (F := F) hu I rx ry (bx.rep sm) (.inl (SqL.of ha)) (ra.mono sm) h fun b q => k _ q
  · obtain ⟨a, vs, rfl, ha, ra⟩ := by_.lst sm
    exact in_ok (neg := true) (F := F) hu I rx ry (bx.rep sm) (.inl (SqL.of ha)) (ra.mono sm) (Q2 := fun b => Q2 (!b)) h fun b q => k _ q
  · exact h.elim
end

/-! ### places and cuts -/
def cutA {α : Type} (xs : List α) (lo hi : Option Int) : List α := (xs.drop (HT.sIx xs.length 0 lo)).take (HT.sIx xs.length xs.length hi - HT.sIx xs.length 0 lo)
def ixM : D → D → M D
  | .lst ds, .int i => fun Q _ => match atI ds i with | some d => Q d | none => False
  | .tup ds, .int i => fun Q _ => match atI ds i with | some d => Q d | none => False
  | .str z, .int i => fun Q _ => z.length ≤ sizeLine ∧ match atI z.cps.toList i with | some c => Q (.str ⟨#[c]⟩) | none => False
  | _, _ => fail
def slM : D → Option Int → Option Int → M (D × Bool)
  | .lst ds, lo, hi => ret (.lst (cutA ds lo hi), true)
  | .scr ns, lo, hi => ret (.lst ((cutA ns lo hi).map .int), true)
  | .tup ds, lo, hi => ret (.tup (cutA ds lo hi), false)
  | .str z, lo, hi => fun Q _ => z.length ≤ sizeLine ∧ Q (.str (cutS z lo hi), false)
  | _, _, _ => fail
def rd (K : PySem.W.Frag) (m : D → D → M D) : R2 := fun x y H Q => ∃ F dx dy Q2 E, Same F H ∧ Bor K F H x dx ∧ Bor K F H y dy ∧ m dx dy Q2 E ∧ ∀ v d, Rep K F v d → Q2 d → Q v H
def rsl (K : PySem.W.Frag) (m : D → Option Int → Option Int → M (D × Bool)) : V → Option Int → Option Int → Hp → VK → Prop := fun x lo hi H Q => ∃ F dx Q2 E, Same F H ∧ Bor K F H x dx ∧ m dx lo hi Q2 E ∧
  ∀ v F' H' r, Grow F H F' H' → Val K F' H' H v r → Q2 r → Q v H'
section
variable {K : PySem.W.Frag} {H : Hp}
theorem atI_rep {vs : List V} {ds : List D} (r : RepL K H vs ds) {i : Int} {d : D} (h : atI ds i = some d) : ∃ v, atI vs i = some v ∧ Rep K H v d := by
  unfold atI at h ⊢
  rw [r.length]
  cases q : ixN ds.length i with
  | none => rw [q] at h; cases h
  | some j =>
    rw [q] at h
    have h' : ds[j]? = some d := h
    obtain ⟨v, h1, h2⟩ := r.get h'
    exact ⟨v, h1, h2⟩
theorem RepL.cut {vs : List V} {ds : List D} (r : RepL K H vs ds) (lo hi : Option Int) : RepL K H (cutV vs lo hi) (cutA ds lo hi) := by
  unfold cutV cutA
  rw [r.length]
  exact (r.drop _).take _
theorem cut_whole {ds : List D} {lo hi : Option Int} (h : HT.sIx ds.length 0 lo = 0 ∧ HT.sIx ds.length ds.length hi = ds.length) : cutA ds lo hi = ds := by
  unfold cutA
  rw [h.1, h.2]
  simp
end
theorem repL_intsD {K : PySem.W.Frag} {F : Hp} (ns : List Int) : RepL K F (ns.map V.int) (ns.map D.int) := by
  induction ns with
  | nil => exact .nil
  | cons n ns ih => exact .cons (.int n) ih
theorem cut_ints (ns : List Int) (lo hi : Option Int) : cutV (ns.map V.int) lo hi = (cutA ns lo hi).map V.int := by
  unfold cutV cutA
  rw [List.length_map, List.map_take, List.map_drop]
theorem Bor.scr {K : PySem.W.Frag} {F H : Hp} {v : V} {ns : List Int} (s : Same F H) (b : Bor K F H v (.scr ns)) : ∃ a, v = .ref a ∧ SqL K H a (ns.map V.int) := by
  rcases b with b | ⟨p, rfl, o⟩
  · cases b with
    | scr h => exact ⟨_, rfl, (h.mono s).sql⟩
  · exact o.elim
theorem ix_ok {X : Cx} : IxR X (rd X.K ixM) := by
  intro value slice pins s σ H x y v u Q I rx ry h hs
  obtain ⟨F, dx, dy, Q2, E, sm, bx, by_, h, k⟩ := h
  unfold ixM at h
  split at h
  · cases by_.int
    obtain ⟨a, vs, rfl, ha, ra⟩ := bx.lst sm
    split at h
    · rename_i d e
      obtain ⟨w, h1, h2⟩ := atI_rep ra e
      exact ix_list value slice pins s σ H _ _ v u Q I rx ry ⟨_, _, _, _, rfl, rfl, SqL.of ha, h1, k _ _ h2 h⟩ hs
    · exact h.elim
  · cases by_.int
    obtain ⟨a, vs, rfl, ha, ra⟩ := bx.tup sm
    split at h
    · rename_i d e
      obtain ⟨w, h1, h2⟩ := atI_rep ra e
      exact ix_tup value slice pins s σ H _ _ v u Q I rx ry ⟨_, _, _, _, rfl, rfl, ha, h1, k _ _ h2 h⟩ hs
    · exact h.elim
  · cases by_.int
    cases bx.str
    obtain ⟨hz, h⟩ := h
    split at h
    · rename_i c e
      exact ix_str value slice pins s σ H _ _ v u Q I rx ry ⟨_, _, _, rfl, rfl, hz, e, k _ _ (.str _) h⟩ hs
    · exact h.elim
  · exact h.elim
theorem sl_ok {X : Cx} : SlR X (rsl X.K slM) := by
  intro pins s σ H x v vl vu lo hi sl Q I rx hs pl pu h
  obtain ⟨F, dx, Q2, E, sm, bx, h, k⟩ := h
  unfold slM at h
  split at h
  · obtain ⟨a, vs, rfl, ha, ra⟩ := bx.lst sm
    exact sl_list pins s σ H _ v vl vu lo hi sl Q I rx hs pl pu ⟨_, _, rfl, SqL.of ha, new_own sm (ra.cut lo hi) h k⟩
  · rename_i ns
    obtain ⟨a, rfl, ha⟩ := bx.scr sm
    refine sl_list pins s σ H _ v vl vu lo hi sl Q I rx hs pl pu ⟨_, _, rfl, ha, ?_⟩
    rw [cut_ints]
    exact new_own sm (repL_intsD _) h k
  · obtain ⟨a, vs, rfl, ha, ra⟩ := bx.tup sm
    refine sl_tupA pins s σ H _ v vl vu lo hi sl Q I rx hs pl pu ⟨_, _, rfl, ha, fun w => ?_, fun _ => new_tup sm (ra.cut lo hi) h k⟩
    rw [ra.length] at w
    have h' : Q2 (D.tup (cutA _ lo hi), false) := h
    rw [cut_whole w] at h'
    rcases bx with q | ⟨_, _, o⟩
    · exact k _ F H _ (Grow.refl sm) (Val.of q) h'
    · exact o.elim
  · cases bx.str
    exact sl_str pins s σ H _ v vl vu lo hi sl Q I rx hs pl pu ⟨_, rfl, h.1, k _ F H _ (Grow.refl sm) (Val.of (.str _)) h.2⟩
  · exact h.elim
end DL

namespace DL
open PySem L2 PySem.Spec PyProof.Rows

/-! ### defs, called where no repr is under way -/
structure FnG (P : Program) (w : World) (K : PySem.W.Frag) (mg : Str → Option Value) (base : Heap) (CX : CXT) (k : Nat) (f : Addr) (fd : FuncData) (ps : List Str) (sp : Sp) : Prop where
  len : ∀ vs H Q E, sp vs H Q E → vs.length = ps.length
  run : ∀ (A : Around) (outer : List PySem.Env) (s : Shared) (H : Hp) (args : Args) (us : List Value) (vs : List V) (Q : VK) (E : XK), Room k A → A.guards = some [] →
    Env0 P w K mg base A outer s H → BindsTo s fd args (ps.zip us) → Vals vs us → sp vs H Q E →
    codeAny (model P w) A (.call (.ref f) args) (CR CX outer P w H s Q E) s
theorem FnOk.g {P : Program} {w : World} {K : PySem.W.Frag} {mg : Str → Option Value} {base : Heap} {CX : CXT} {k : Nat} {f : Addr} {fd : FuncData} {ps : List Str} {sp : Sp} (F : FnOk P w K mg base CX k f fd ps sp) : FnG P w K mg base CX k f fd ps sp :=
  ⟨F.len, fun A outer s H args us vs Q E hr _ => F.run A outer s H args us vs Q E hr⟩
theorem FnG.imp {P : Program} {w : World} {K : PySem.W.Frag} {mg : Str → Option Value} {base : Heap} {CX : CXT} {k : Nat} {f : Addr} {fd : FuncData} {ps : List Str} {sp sp' : Sp} (F : FnG P w K mg base CX k f fd ps sp)
    (h : ∀ vs H Q E, sp' vs H Q E → sp vs H Q E) : FnG P w K mg base CX k f fd ps sp' :=
  ⟨fun vs H Q E q => F.len vs H Q E (h _ _ _ _ q), fun A outer s H args us vs Q E hr hg he hb hv hs => F.run A outer s H args us vs Q E hr hg he hb hv (h _ _ _ _ hs)⟩
section
variable {P : Program} {w : World} {K : PySem.W.Frag} {mg : Str → Option Value} {base : Heap} {CX : CXT} {x qual : Str} {st : Stmt} {f : Addr} {fd : FuncData} {N ps : List Str} {k : Nat} {sp : Sp}
/-- a def by its body -/
theorem Fun.okG (F : Fun K x qual st f fd) (S : FnScope N ps (defScope st)) (len : ∀ vs H Q E, sp vs H Q E → vs.length = ps.length)
    (body : ∀ (cdv : Value) (A : Around) (outer : List PySem.Env) (s : Shared) (H : Hp) (vs : List V) (Q : VK) (E : XK), Room k (A.deeper (envOfC qual (defScope st) s.heap.objs.size f cdv)) → A.guards = some [] → sp vs H Q E →
      ∃ t, PSs (cxOf CX P w K mg base N qual (defScope st) f cdv A outer s H E) (defBody st) t ∧ t { nx := fun _ H' => Q .non H', rt := Q } (start N vs) H) :
    FnG P w K mg base CX (k + 1) f fd ps sp := by
  obtain ⟨oc, od, kV, doc, pm, an, cdv, ct, osl, rfl, lk, hcd⟩ := F.ex
  refine ⟨len, ?_⟩
  intro A outer s H args us vs Q E room gd e0 hb rv want
  have many := len _ _ _ _ want
  have stays : ∀ b o, base.get? b = some o → s.heap.get? b = some o := fun b o e => (e0.bs b o e).1
  have KX := e0.mod.kin.keeps stays
  have lim := e0.mod.nolimit.keeps stays
  have kinds : ∀ y ∈ ps.zip us, (defScope st).names.lookup y.1 = some .local ∨ ((defScope st).names.lookup y.1 = some .cell ∧ ((cellsFrom (s.heap.objs.size + 1) (defScope st).names []).lookup y.1).isSome = true) := by
    rintro ⟨n, v⟩ hy
    exact (S.par n (List.of_mem_zip hy).1).imp id fun q => ⟨q, PySem.W.cellsFrom_some _ _ _ (.inl q)⟩
  refine codeAny_call_function room.depth (KX _ _ lk) rfl S.co S.gen rfl (PySem.W.codeRec_of KX hcd) (hb _ _ _ _ ?_)
  refine wpAny_newFunctionEnv_cells S.kind kinds ?_
  intro env he s1 x
  subst he
  refine ⟨lim.keeps x.toInCall.keep, codeAny_func ?_⟩
  obtain ⟨t, ht, hq⟩ := body cdv A outer s H vs Q E (room.deeper _) gd want
  have I := inv_start (CX := CX) (E := E) S room.hd e0 many rv x
  refine wpAny_mono (ht.run [] s1 (start N vs) H _ I hq) ?_ fun e s' hs => hs
  intro fl s' hs
  cases fl with
  | ret u =>
    obtain ⟨v, σ', H', J, r', q⟩ := hs
    exact ⟨v, H', J.os, J.bare, J.base, J.hok, r', q⟩
  | next =>
    obtain ⟨σ', H', J, q⟩ := hs
    exact ⟨V.non, H', J.os, J.bare, J.base, J.hok, rfl, q⟩
  | brk => obtain ⟨_, _, _, q⟩ := hs; exact q.elim
  | cont => obtain ⟨_, _, _, q⟩ := hs; exact q.elim
end

section
variable {X : Cx} {CX : CXT} {k : Nat} {f : Addr} {fd : FuncData} {ps ks : List Str} {sp : Sp} {dvs : List V} {ds : List Value} {E : XK} {x : Str} {p pos : Pos} {e : Expr} {es : List Expr} {kws : List Keyword} {t tk : TA}
theorem runG {pins : List (Addr × Obj)} {σ : L2.St} {H : Hp} {s : Shared} {Q : VK} {us ws : List Value} {vs : List V} {args : Args} (F : FnG X.prog X.w X.K X.mg X.base CX k f fd ps sp) (hr : Room k X.A) (gd : X.A.guards = some [])
    (hb : BindsTo s fd args (ps.zip us)) (hx : Passes CX X E) (I : Inv X pins σ H s) (r : Vals vs us) (h : sp vs H Q E) : wpAny (model X.prog X.w) X.A (call (.ref f) args.pos args.kw) (EP X pins σ Q) X.xe s := by
  refine wpAny_call (codeAny_mono (F.run X.A X.stack s H args us vs Q E hr gd I.env0 hb r h) ?_)
  intro r s' hq
  rcases r with e | fl
  · exact hx pins σ H s e s' I hq
  · cases fl with
    | ret u => exact I.after hq
    | next => exact hq.elim
    | brk => exact hq.elim
    | cont => exact hq.elim
/-- f(e, ..) -/
theorem pe_callG (F : FnG X.prog X.w X.K X.mg X.base CX k f fd ps sp) (hr : Room k X.A) (gd : X.A.guards = some []) (hg : Gl X x) (hm : X.mg x = some (.ref f)) (hk : PySem.W.keepIn X.K (.ref f) = true) (hb : Binds X.K fd ps ds) (hd : Vals dvs ds) (hx : Passes CX X E)
    (ha : PA X (e :: es) t) (hdb : (x == ("__debug__" : Str)) = false) (he : starEach (e :: es) X.env = (false, eval e X.env) :: starEach es X.env) (hpl : (backTo pos (starEach es X.env)).any (·.1) = false) :
    PE X (.Call (.Name x p) (e :: es) [] pos) (tCall sp dvs E t) := by
  refine ⟨fun pins s σ H Q I h => wpAny_Call_Name_kw (ld_glob I hg hm ?_ hdb)⟩
  refine PySem.W.callWith_K (h₀ := X.base) I.ok.mod.kin hk (thn (ha.run pos pins s σ H _ I h) ?_) he hpl
  rintro us s1 ⟨vs, H1, I1, r, q⟩
  have r2 : Vals (vs ++ dvs) (us ++ ds) := r.append hd
  have hl : (us ++ ds).length = ps.length := by rw [← r2.length]; exact F.len _ _ _ _ q
  exact ⟨I1.kIn, runG (args := ⟨us, []⟩) (ws := []) F hr gd (hb s1 us I1.kIn hl) hx I1 r2 q⟩
theorem pe_callG0 (F : FnG X.prog X.w X.K X.mg X.base CX k f fd ps sp) (hr : Room k X.A) (gd : X.A.guards = some []) (hg : Gl X x) (hm : X.mg x = some (.ref f)) (hk : PySem.W.keepIn X.K (.ref f) = true) (hb : Binds X.K fd ps ds) (hd : Vals dvs ds) (hx : Passes CX X E)
    (hdb : (x == ("__debug__" : Str)) = false) : PE X (.Call (.Name x p) [] [] pos) (tCall sp dvs E tNil) := by
  refine ⟨fun pins s σ H Q I h => wpAny_Call_Name_kw (ld_glob I hg hm ?_ hdb)⟩
  have h' : sp ([] ++ dvs) H Q E := h
  have r2 : Vals ([] ++ dvs) ([] ++ ds) := Vals.append .nil hd
  have hl : ([] ++ ds).length = ps.length := by rw [← r2.length]; exact F.len _ _ _ _ h'
  exact PySem.W.callWith_K0 I.kIn hk (runG (args := ⟨[], []⟩) (ws := []) F hr gd (hb s [] I.kIn hl) hx I r2 h')
/-- f(e, .., k = v, ..) -/
theorem pe_callGK {g : List Value → List Value → List Value} {gV : List V → List V → List V} (F : FnG X.prog X.w X.K X.mg X.base CX k f fd ps sp) (hr : Room k X.A) (gd : X.A.guards = some []) (hg : Gl X x) (hm : X.mg x = some (.ref f))
    (hk : PySem.W.keepIn X.K (.ref f) = true) (hb : KBinds X.K fd ps ks g gV) (hx : Passes CX X E)
    (ha : PA X (e :: es) t) (hkw : PK X kws tk) (hall : (backToKw pos (keywordEach kws X.env)).all (·.1.isSome) = true) (hks : (backToKw pos (keywordEach kws X.env)).filterMap (·.1) = ks)
    (hdb : (x == ("__debug__" : Str)) = false) (he : starEach (e :: es) X.env = (false, eval e X.env) :: starEach es X.env)
    (hpl : ((backTo pos (starEach (e :: es) X.env)).any (·.1) || (backToKw pos (keywordEach kws X.env)).any (·.1.isNone)) = false) :
    PE X (.Call (.Name x p) (e :: es) kws pos) (tCallK sp gV E t tk) := by
  refine ⟨fun pins s σ H Q I h => wpAny_Call_Name_kw (ld_glob I hg hm ?_ hdb)⟩
  refine PySem.W.callWith_KW (h₀ := X.base) I.ok.mod.kin hk hall (thn (ha.run pos pins s σ H _ I h) ?_) hpl he
  rintro us s1 ⟨vs, H1, I1, r, q⟩
  refine thn (hkw.run pos pins s1 σ H1 _ I1 q) ?_
  rintro ws s2 ⟨zs, H2, I2, rz, q2⟩
  have r2 := hb.rel r rz
  have hl : (g us ws).length = ps.length := by rw [← r2.length]; exact F.len _ _ _ _ q2
  refine ⟨I2.kIn, ?_⟩
  rw [hks]
  exact runG (args := ⟨us, ks.zip ws⟩) (ws := []) F hr gd (hb.to s2 us ws I2.kIn hl) hx I2 r2 q2
end

/-! ### the law's end -/
theorem law_callG {P : Program} {w : World} {K : PySem.W.Frag} {mg mb : Str → Option Value} {k : Nat} {fa a : Addr} {fd : FuncData} {x : Str} {sp : Sp} {s1 : Shared} {vs : List Value} {ns : List Int}
    (KX : K.In s1.heap) (hns : s1.heap.Ns mainGlobals mg) (hb : s1.heap.Ns builtinsNs mb) (hbb : ∀ x : Str, x ≠ "__name__" → mb x = bootBuiltins x) (hlim : s1.heap.NoLimit) (hgn : s1.gens = #[])
    (ha : s1.heap.get? a = some { cls := .type "list", data := .seq vs.toArray }) (hi : IntsAre vs ns) (hl : ns.length ≤ sizeLine) (hr : Room k callerA)
    (F : ∀ base : Heap, K.In base → base.Ns mainGlobals mg → FnG P w K mg base CX0 k fa fd [x] sp) (hbind : ∀ (s : Shared) (u : Value), BindsTo s fd ⟨[u], []⟩ [(x, u)])
    (hsp : ∀ H : Hp, Only H → SqL K H a (ns.map V.int) → sp [.ref a] H (fun v _ => v = .bl true) fun _ _ _ => False) :
    codeAny (model P w) callerA (.call (.ref fa) ⟨[.ref a], []⟩) (fun r s' => r = .ok (.ret (.bool true)) ∧ OldK s1.heap s'.heap ∧ s'.os = s1.os ∧ AllBare s'.gens) s1 := by
  have rv := vals_ints hi
  have many := hi.length
  have core : ∀ H : Hp, Only H → SqL K H a (ns.map V.int) → HOk P w H s1.heap → (∀ b, H b ≠ none → b = a) → (H a ≠ none → K.lookup a = none) →
      codeAny (model P w) callerA (.call (.ref fa) ⟨[.ref a], []⟩) (fun r s' => r = .ok (.ret (.bool true)) ∧ OldK s1.heap s'.heap ∧ s'.os = s1.os ∧ AllBare s'.gens) s1 := by
    intro H only seq ok hA hK
    have kept : ∀ {b : Addr} {o : Obj}, s1.heap.get? b = some o → H b = none → (hidT s1.heap H).get? b = some o := fun e n => hidT_get e n
    have dictFree : ∀ {b : Addr} {o : Obj} {es : Array DictEntry} {ep : Nat}, s1.heap.get? b = some o → o.data = .dict es ep → H b = none := by
      intro b o es ep e d
      cases q : H b with
      | none => rfl
      | some u =>
        have e' : b = a := hA b (by rw [q]; simp)
        subst e'
        rw [ha] at e
        cases e
        exact nomatch d
    have nsK : ∀ {b : Addr} {m : Str → Option Value}, s1.heap.Ns b m → (hidT s1.heap H).Ns b m := by
      rintro b m ⟨o, es, ep, e, d, r⟩
      exact ⟨o, es, ep, kept e (dictFree e d), d, r⟩
    have hKb : K.In (hidT s1.heap H) := by
      intro b o e
      refine kept (KX b o e) ?_
      cases q : H b with
      | none => rfl
      | some u =>
        have e' : b = a := hA b (by rw [q]; simp)
        subst e'
        rw [hK (by rw [q]; simp)] at e
        cases e
    obtain ⟨mc, n1, n2⟩ := hlim
    have M : Mod K mg (hidT s1.heap H) := ⟨hKb, nsK hns, ⟨mb, nsK hb, hbb⟩, mc, nsK n1, n2⟩
    have e0 : Env0 P w K mg (hidT s1.heap H) callerA [] s1 H := ⟨rfl, M, fun b o e => of_hidT e, Nat.le_of_eq (hidT_size _ _), trivial, fun b z => (by cases z), ok, .of_eq hgn⟩
    refine codeAny_mono ((F _ hKb (nsK hns)).run callerA [] s1 H ⟨[.ref a], []⟩ [.ref a] [.ref a] _ _ hr rfl e0 (hbind s1 (.ref a)) (.cons rfl .nil) (hsp H only seq)) ?_
    intro r s' h
    rcases r with e | fl
    · exact (show False from h).elim
    · cases fl with
      | next => exact h.elim
      | brk => exact h.elim
      | cont => exact h.elim
      | ret u =>
        obtain ⟨v, H', os, bare, un, ok', r', q⟩ := h
        obtain rfl : v = V.bl true := q
        obtain rfl : u = Value.bool true := r'
        refine ⟨rfl, OldK.of_keep ?_, os, bare⟩
        intro b o e
        cases q : H b with
        | none => exact un.keep b o e q (fun z => by cases z) (fun z => by cases z)
        | some u =>
          rcases only b with z | ⟨ob, xs, z⟩
          · rw [q] at z; cases z
          · have e1 := (ok b _ z).1
            have e2 := (ok' b _ (un.frzs b ob _ z)).1
            rw [e] at e1
            cases e1
            exact e2
  cases hk : K.lookup a with
  | some o =>
    have e := KX a o hk
    rw [ha] at e
    cases e
    exact core (fun _ => none) (fun _ => .inl rfl) (.inr ⟨_, vs.toArray, _, hk, rfl, rfl, rfl, by rw [List.size_toArray, many]; exact hl, by simpa using rv⟩)
      (fun b u z => nomatch z) (fun b z => (z rfl).elim) fun z => (z rfl).elim
  | none =>
    let ob : Obj := { cls := .type "list", data := .seq vs.toArray }
    refine core (fun b => if b = a then some (.frz ob (.lst (ns.map V.int))) else none) (fun b => ?_) (.inl (.inr ⟨ob, if_pos rfl⟩)) (fun b u z => ?_) (fun b z => ?_) fun _ => hk
    · by_cases hb : b = a
      · exact .inr ⟨_, _, if_pos hb⟩
      · exact .inl (if_neg hb)
    · by_cases hb : b = a
      · obtain rfl : _ = u := Option.some.inj ((if_pos hb).symm.trans z)
        subst hb
        exact ⟨ha, by rw [List.length_map]; exact hl, vs, _, rv, ha⟩
      · exact nomatch (if_neg hb).symm.trans z
    · by_cases hb : b = a
      · exact hb
      · exact (z (if_neg hb)).elim
theorem walkG {l : PySem.W.OpenLaw} {n k : Nat} {q : Program} {loose : List Str} {XP : (Str → Option Value) → Heap → Prop} {YP : World → Heap → Prop} {d : DefRec} {K : Params → PySem.W.Frag} {sp : PySem.W.Frag → Sp} {x : Str}
    (hn : l.most = some n) (hn2 : n ≤ sizeLine) (hdf : d.params.defaults = []) (hr : Room k callerA) (hY : ∀ (w : World) (h : Heap), YP w h → (K w.params).In h)
    (F : ∀ (w : World) (mg : Str → Option Value) (fa : Addr) (h : Heap), (K w.params).In h → h.Ns mainGlobals mg → mg d.name = some (.ref fa) →
      ∃ fd : FuncData, (∀ (s : Shared) (u : Value), BindsTo s fd ⟨[u], []⟩ [(x, u)]) ∧ ∀ base : Heap, (K w.params).In base → base.Ns mainGlobals mg → FnG l.prog w (K w.params) mg base CX0 k fa fd [x] (sp (K w.params)))
    (hsp : ∀ (K : PySem.W.Frag) (H : Hp) (a : Addr) (ns : List Int), ns.length ≤ n → Only H → SqL K H a (ns.map V.int) → sp K [.ref a] H (fun v _ => v = .bl true) fun _ _ _ => False) :
    PySem.W.WalkO q loose XP YP l.row.toRowW d [] (fun f vs => PySem.call f vs) := by
  refine Att.attach_call hn hdf ?_
  intro w s₀ s₁ mg mb fa o pm cd doc a vs ns G Y ho hd hcd hmg hobj hints hlen hg
  have KX := hY w _ Y
  obtain ⟨fd, hb, hF⟩ := F w mg fa _ KX G.T.g hmg
  exact law_callG KX G.T.g G.T.b G.T.builtins G.T.nolimit hg hobj hints (Nat.le_trans hlen hn2) hr hF hb fun H only seq => hsp _ H a ns hlen only seq
end DL

namespace DL
open PySem L2

abbrev CV := Env → M (D × Bool)
abbrev CB := Env → M D
abbrev CT := Env → M Bool
abbrev CL := Env → M (List D)

/-! ### a computation as a reading -/
def rdV (K : PySem.W.Frag) (E : Xn → Prop) (c : CV) : TE := fun σ H Q' => ∃ B F0 F ρ Q, REnv K B F0 F H σ ρ ∧ c ρ Q E ∧ ∀ v H' F' r, Grow F H F' H' → Val K F' H' H v r → Q r → Q' v H'
def rdB (K : PySem.W.Frag) (E : Xn → Prop) (c : CB) : TE := fun σ H Q' => ∃ B F0 F ρ Q, REnv K B F0 F H σ ρ ∧ c ρ Q E ∧ ∀ v H' F' d, Grow F H F' H' → Bor K F' H' v d → Q d → Q' v H'
def rdF (K : PySem.W.Frag) (E : Xn → Prop) (c : CB) : TE := fun σ H Q' => ∃ B F0 F ρ Q, REnv K B F0 F H σ ρ ∧ c ρ Q E ∧ ∀ v H' F' d, Grow F H F' H' → Rep K F' v d → Q d → Q' v H'
def rdT (K : PySem.W.Frag) (E : Xn → Prop) (c : CT) : TT := fun σ H Q' => ∃ B F0 F ρ Q, REnv K B F0 F H σ ρ ∧ c ρ Q E ∧ ∀ b H' F', Grow F H F' H' → Q b → Q' b H'
def rdL (K : PySem.W.Frag) (E : Xn → Prop) (n : Nat) (c : CL) : TA := fun σ H Q' => ∃ B F0 F ρ Q, REnv K B F0 F H σ ρ ∧ c ρ Q E ∧ ∀ vs H' F' ds, Grow F H F' H' → RepL K F' vs ds → vs.length = n → Q ds → Q' vs H'
inductive BorL (K : PySem.W.Frag) (F H : Hp) : List V → List D → Prop
  | nil : BorL K F H [] []
  | cons {v : V} {d : D} {vs : List V} {ds : List D} : Bor K F H v d → BorL K F H vs ds → BorL K F H (v :: vs) (d :: ds)
theorem BorL.grow {K : PySem.W.Frag} {F H F' H' : Hp} (g : Grow F H F' H') : ∀ {vs : List V} {ds : List D}, BorL K F H vs ds → BorL K F' H' vs ds
  | _, _, .nil => .nil
  | _, _, .cons r t => .cons (r.grow g) (BorL.grow g t)
def rdM (K : PySem.W.Frag) (E : Xn → Prop) (c : CL) : TA := fun σ H Q' => ∃ B F0 F ρ Q, REnv K B F0 F H σ ρ ∧ c ρ Q E ∧ ∀ vs H' F' ds, Grow F H F' H' → BorL K F' H' vs ds → Q ds → Q' vs H'

end DL
namespace L2
open PySem
theorem PE.imp {X : Cx} {e : Expr} {t t' : TE} (h : PE X e t) (i : ∀ σ H Q, t' σ H Q → t σ H Q) : PE X e t' := ⟨fun pins s σ H Q I hw => h.run pins s σ H Q I (i σ H Q hw)⟩
theorem PT.imp {X : Cx} {e : Expr} {t t' : TT} (h : PT X e t) (i : ∀ σ H Q, t' σ H Q → t σ H Q) : PT X e t' := ⟨fun pins s σ H Q I hw => h.run pins s σ H Q I (i σ H Q hw)⟩
theorem PW.imp {X : Cx} {e : Expr} {t t' : TT} (h : PW X e t) (i : ∀ σ H Q, t' σ H Q → t σ H Q) : PW X e t' := ⟨fun wh pins s σ H Q I hw => h.run wh pins s σ H Q I (i σ H Q hw)⟩
theorem PA.imp {X : Cx} {es : List Expr} {t t' : TA} (h : PA X es t) (i : ∀ σ H Q, t' σ H Q → t σ H Q) : PA X es t' := ⟨fun pos pins s σ H Q I hw => h.run pos pins s σ H Q I (i σ H Q hw)⟩
theorem PO.imp {X : Cx} {eo : Option Expr} {t t' : TO} (h : PO X eo t) (i : ∀ σ H Q, t' σ H Q → t σ H Q) : PO X eo t' := ⟨fun pins s σ H Q I hw => h.run pins s σ H Q I (i σ H Q hw)⟩
end L2
namespace DL
open PySem L2

/-- one's own is given away -/
def frz (c : CV) : CB := fun ρ => bnd (c ρ) fun r => ret r.1
theorem Val.bor {K : PySem.W.Frag} {F H H0 : Hp} {v : V} {r : D × Bool} (h : Val K F H H0 v r) : Bor K F H v r.1 := by
  unfold Val at h
  split at h
  · obtain ⟨p, rfl, _, _, o⟩ := h
    exact .inr ⟨p, rfl, o⟩
  · exact .inl h
theorem Val.frz {K : PySem.W.Frag} {F H F' H' : Hp} {v : V} {r : D × Bool} (g : Grow F H F' H') (h : Val K F' H' H v r) : ∃ F'', Grow F H F'' H' ∧ Rep K F'' v r.1 := by
  unfold Val at h
  split at h
  · obtain ⟨p, rfl, h0, hf, o⟩ := h
    obtain ⟨u, e, q⟩ := o.frz hf
    exact ⟨_, g.freeze h0 e, q⟩
  · exact ⟨F', g, h⟩
section
variable {X : Cx} {E : Xn → Prop} {e a b c3 : Expr} {c ca cb cc : CV} {xa xb xc : CB} {ta tb : CT} {es : List Expr} {cl : CL} {pos : Pos}
theorem PE.toF (h : PE X e (rdV X.K E c)) : PE X e (rdF X.K E (frz c)) := h.imp fun σ H Q' ⟨B, F0, F, ρ, Q, r, h, k⟩ =>
  ⟨B, F0, F, ρ, _, r, h, fun v H' F' z g w q => by
    obtain ⟨F'', g', r'⟩ := w.frz g
    exact k v H' F'' z.1 g' r' q⟩
theorem PE.toB (h : PE X e (rdV X.K E c)) : PE X e (rdB X.K E (frz c)) := h.imp fun σ H Q' ⟨B, F0, F, ρ, Q, r, h, k⟩ =>
  ⟨B, F0, F, ρ, _, r, h, fun v H' F' z g w q => k v H' F' z.1 g w.bor q⟩
theorem PE.FtoB (h : PE X e (rdF X.K E xa)) : PE X e (rdB X.K E xa) := h.imp fun σ H Q' ⟨B, F0, F, ρ, Q, r, h, k⟩ =>
  ⟨B, F0, F, ρ, _, r, h, fun v H' F' z g w q => k v H' F' z g (.inl w) q⟩
theorem PE.FtoV (h : PE X e (rdF X.K E xa)) : PE X e (rdV X.K E fun ρ => bnd (xa ρ) fun d => ret (d, false)) := h.imp fun σ H Q' ⟨B, F0, F, ρ, Q, r, h, k⟩ =>
  ⟨B, F0, F, ρ, _, r, h, fun v H' F' z g w q => k v H' F' (z, false) g (Val.of w) q⟩

/-! ### names, constants -/
def cC (d : D) : CV := fun _ => ret (d, false)
def cVar (i : Nat) : CV := fun ρ => match ρ[i]? with
  | some (.sh d) => ret (d, false)
  | _ => fail
def bVar (i : Nat) : CB := fun ρ => match ρ[i]? with
  | some (.sh d) => ret d
  | some (.ow d _) => ret d
  | _ => fail
theorem re_const {j : Nat} {d : D} {k : Const} (h : PE X (.Constant k j pos) (tC v)) (r : ∀ F, Rep X.K F v d) : PE X (.Constant k j pos) (rdV X.K E (cC d)) := h.imp fun σ H Q' ⟨B, F0, F, ρ, Q, re, h, k⟩ =>
  k v H F (d, false) re.gr (Val.of (r F)) h
theorem re_var {i : Nat} {x : Str} (hN : X.N[i]? = some x) (hv : Vis X.env.scope x) (hd : (x == ("__debug__" : Str)) = false) (hcd : (x == ("__classdict__" : Str)) = false) : PE X (.Name x pos) (rdV X.K E (cVar i)) :=
  (pe_var hN hv hd hcd).imp fun σ H Q' ⟨B, F0, F, ρ, Q, re, h, k⟩ => by
    unfold cVar at h
    cases e : ρ[i]? with
    | none => rw [e] at h; exact (show False from h).elim
    | some cell =>
      rw [e] at h
      cases cell with
      | no => exact (show False from h).elim
      | ow d z => exact (show False from h).elim
      | sh d =>
        obtain ⟨v, h1, x, rfl, h2⟩ := re.cell i _ e
        exact ⟨x, h1, k x H F (d, false) re.gr (Val.of h2) h⟩
theorem re_bvar {i : Nat} {x : Str} (hN : X.N[i]? = some x) (hv : Vis X.env.scope x) (hd : (x == ("__debug__" : Str)) = false) (hcd : (x == ("__classdict__" : Str)) = false) : PE X (.Name x pos) (rdB X.K E (bVar i)) :=
  (pe_var hN hv hd hcd).imp fun σ H Q' ⟨B, F0, F, ρ, Q, re, h, k⟩ => by
    unfold bVar at h
    cases e : ρ[i]? with
    | none => rw [e] at h; exact (show False from h).elim
    | some cell =>
      rw [e] at h
      cases cell with
      | no => exact (show False from h).elim
      | sh d =>
        obtain ⟨v, h1, x, rfl, h2⟩ := re.cell i _ e
        exact ⟨x, h1, k x H F d re.gr (.inl h2) h⟩
      | ow d z =>
        obtain ⟨v, h1, p, rfl, _, _, h2, _⟩ := re.cell i _ e
        exact ⟨_, h1, k _ H F d re.gr (.inr ⟨p, rfl, h2⟩) h⟩

end
theorem Val.back {K : PySem.W.Frag} {F H F' H' F2 H2 : Hp} {v : V} {r : D × Bool} (g : Grow F H F' H') (h : Val K F2 H2 H' v r) : Val K F2 H2 H v r := by
  unfold Val at h ⊢
  split at h
  · rename_i hr
    rw [if_pos hr]
    obtain ⟨p, e, h0, hf, o⟩ := h
    exact ⟨p, e, g.h.free h0, hf, o⟩
  · rename_i hr
    rw [if_neg hr]
    exact h
/-- the value behind more that has grown -/
theorem Val.grow {K : PySem.W.Frag} {F H F' H' H0 : Hp} {v : V} {r : D × Bool} (g : Grow F H F' H') (h : Val K F H H0 v r) : Val K F' H' H0 v r := by
  unfold Val at h ⊢
  split at h
  · rename_i hr
    rw [if_pos hr]
    obtain ⟨p, e, h0, hf, o⟩ := h
    refine ⟨p, e, h0, ?_, o.grow g⟩
    cases q : F' p with
    | none => rfl
    | some u =>
      obtain ⟨w, hw⟩ := o.there
      rcases g.nw p u q with z | z
      · rw [hf] at z; cases z
      · rw [hw] at z; cases z
  · rename_i hr
    rw [if_neg hr]
    exact h.mono g.f
section
variable {X : Cx} {E : Xn → Prop} {e a b c3 : Expr} {c ca cb cc : CV} {xa xb xc : CB} {ta tb : CT} {es : List Expr} {cl : CL} {pos : Pos}
/-! ### operators -/
def cBin (op : Operator) (a b : CB) : CV := fun ρ => bnd (a ρ) fun x => bnd (b ρ) fun y => binM op x y
theorem re_bin {op : Operator} (ha : PE X a (rdB X.K E xa)) (hb : PE X b (rdB X.K E xb)) : PE X (.BinOp a op b pos) (rdV X.K E (cBin op xa xb)) :=
  (pe_op (op_bin op) ha hb).imp fun σ H Q' ⟨B, F0, F, ρ, Q, re, h, k⟩ =>
    ⟨B, F0, F, ρ, _, re, h, fun v H1 F1 d g1 b1 h1 => ⟨B, F0, F1, ρ, _, re.grow g1, h1, fun u H2 F2 d2 g2 b2 h2 =>
      ⟨F2, d, d2, Q, E, g2.fh, b1.grow g2, b2, h2, fun w F3 H3 r g3 v3 q => k w H3 F3 r ((g1.trans g2).trans g3) (v3.back (g1.trans g2)) q⟩⟩⟩
def cNeg (a : CB) : CV := fun ρ => bnd (a ρ) fun x => match x with
  | .int i => ret (.int (-i), false)
  | _ => fail
theorem re_neg (ha : PE X a (rdB X.K E xa)) : PE X (.UnaryOp .USub a pos) (rdV X.K E (cNeg xa)) :=
  (pe_un un_neg ha).imp fun σ H Q' ⟨B, F0, F, ρ, Q, re, h, k⟩ => ⟨B, F0, F, ρ, _, re, h, fun v H1 F1 d g1 b1 h1 => by
    cases d with
    | int i =>
      cases b1.int
      exact ⟨i, rfl, k _ H1 F1 (.int (-i), false) g1 (Val.of (.int _)) h1⟩
    | _ => exact h1.elim⟩
def cNot (a : CB) : CV := fun ρ => bnd (a ρ) fun x => bnd (truM x) fun k => ret (.bl (!k), false)
theorem re_not (ha : PE X a (rdB X.K E xa)) : PE X (.UnaryOp .Not a pos) (rdV X.K E (cNot xa)) :=
  (pe_notT ha).imp fun σ H Q' ⟨B, F0, F, ρ, Q, re, h, k⟩ => ⟨B, F0, F, ρ, _, re, h, fun v H1 F1 d g1 b1 h1 => by
    obtain ⟨b, t, q⟩ := truM_ok (b1.rep g1.fh) h1
    exact ⟨b, t, k _ H1 F1 (.bl (!b), false) g1 (Val.of (.bl _)) q⟩⟩
def cAnd (a b : CV) : CV := fun ρ => bnd (a ρ) fun r => bnd (truM r.1) fun k => if k = true then b ρ else ret r
def cOr (a b : CV) : CV := fun ρ => bnd (a ρ) fun r => bnd (truM r.1) fun k => if k = true then ret r else b ρ
theorem re_and {rest : List Expr} (ha : PE X a (rdV X.K E ca)) (hb : PE X (.BoolOp .And (b :: rest) pos) (rdV X.K E cb)) : PE X (.BoolOp .And (a :: b :: rest) pos) (rdV X.K E (cAnd ca cb)) :=
  (pe_andT ha hb).imp fun σ H Q' ⟨B, F0, F, ρ, Q, re, h, k⟩ => ⟨B, F0, F, ρ, _, re, h, fun v H1 F1 r g1 v1 h1 => by
    obtain ⟨t, tr, q⟩ := truM_ok (v1.bor.rep g1.fh) h1
    refine ⟨t, tr, ?_⟩
    cases t with
    | true => exact ⟨B, F0, F1, ρ, Q, re.grow g1, q, fun w H2 F2 r2 g2 v2 q2 => k w H2 F2 r2 (g1.trans g2) (v2.back g1) q2⟩
    | false => exact k v H1 F1 r g1 v1 q⟩
theorem re_or {rest : List Expr} (ha : PE X a (rdV X.K E ca)) (hb : PE X (.BoolOp .Or (b :: rest) pos) (rdV X.K E cb)) : PE X (.BoolOp .Or (a :: b :: rest) pos) (rdV X.K E (cOr ca cb)) :=
  (pe_orT ha hb).imp fun σ H Q' ⟨B, F0, F, ρ, Q, re, h, k⟩ => ⟨B, F0, F, ρ, _, re, h, fun v H1 F1 r g1 v1 h1 => by
    obtain ⟨t, tr, q⟩ := truM_ok (v1.bor.rep g1.fh) h1
    refine ⟨t, tr, ?_⟩
    cases t with
    | false => exact ⟨B, F0, F1, ρ, Q, re.grow g1, q, fun w H2 F2 r2 g2 v2 q2 => k w H2 F2 r2 (g1.trans g2) (v2.back g1) q2⟩
    | true => exact k v H1 F1 r g1 v1 q⟩
def cIf (t : CT) (a b : CV) : CV := fun ρ => bnd (t ρ) fun k => if k = true then a ρ else b ρ
theorem re_if {t : Expr} (ht : PT X t (rdT X.K E ta)) (ha : PE X a (rdV X.K E ca)) (hb : PE X b (rdV X.K E cb)) : PE X (.IfExp t a b pos) (rdV X.K E (cIf ta ca cb)) :=
  (pe_ifExp ht ha hb).imp fun σ H Q' ⟨B, F0, F, ρ, Q, re, h, k⟩ => ⟨B, F0, F, ρ, _, re, h, fun t H1 F1 g1 h1 => by
    cases t with
    | true => exact ⟨B, F0, F1, ρ, Q, re.grow g1, h1, fun w H2 F2 r2 g2 v2 q2 => k w H2 F2 r2 (g1.trans g2) (v2.back g1) q2⟩
    | false => exact ⟨B, F0, F1, ρ, Q, re.grow g1, h1, fun w H2 F2 r2 g2 v2 q2 => k w H2 F2 r2 (g1.trans g2) (v2.back g1) q2⟩⟩

/-! ### comparisons -/
def tCm (op : CmpOp) (a b : CB) : CT := fun ρ => bnd (a ρ) fun x => bnd (b ρ) fun y => cmpM op x y
def tCh (op op' : CmpOp) (a b c : CB) : CT := fun ρ => bnd (a ρ) fun x => bnd (b ρ) fun y => bnd (cmpM op x y) fun k => if k = true then bnd (c ρ) fun z => cmpM op' y z else ret false
def vT (t : CT) : CV := fun ρ => bnd (t ρ) fun k => ret (.bl k, false)
theorem rd_cm {op : CmpOp} {σ : L2.St} {H : Hp} {Q' : VK} {Qb : Bool → Hp → Prop} (hq : ∀ b H', Qb b H' → Q' (.bl b) H') (h : rdT X.K E (tCm op xa xb) σ H Qb) : tOp (rb X.K (cmpM op)) (rdB X.K E xa) (rdB X.K E xb) σ H Q' := by
  obtain ⟨B, F0, F, ρ, Q, re, h, k⟩ := h
  exact ⟨B, F0, F, ρ, _, re, h, fun v H1 F1 d g1 b1 h1 => ⟨B, F0, F1, ρ, _, re.grow g1, h1, fun u H2 F2 d2 g2 b2 h2 =>
    ⟨F2, d, d2, Q, E, g2.fh, b1.grow g2, b2, h2, fun b q => hq _ _ (k b H2 F2 (g1.trans g2) q)⟩⟩⟩
theorem rd_ch {op op' : CmpOp} {σ : L2.St} {H : Hp} {Q' : VK} {Qb : Bool → Hp → Prop} (hq : ∀ b H', Qb b H' → Q' (.bl b) H') (h : rdT X.K E (tCh op op' xa xb xc) σ H Qb) :
    tChain (rb X.K (cmpM op)) (rb X.K (cmpM op')) (rdB X.K E xa) (rdB X.K E xb) (rdB X.K E xc) σ H Q' := by
  obtain ⟨B, F0, F, ρ, Q, re, h, k⟩ := h
  exact ⟨B, F0, F, ρ, _, re, h, fun v H1 F1 d g1 b1 h1 => ⟨B, F0, F1, ρ, _, re.grow g1, h1, fun u H2 F2 d2 g2 b2 h2 =>
    ⟨F2, d, d2, _, E, g2.fh, b1.grow g2, b2, h2, fun b q => ⟨b, rfl, by
      cases b with
      | true => exact ⟨B, F0, F2, ρ, _, (re.grow g1).grow g2, q, fun w H3 F3 d3 g3 b3 h3 => ⟨F3, d2, d3, Q, E, g3.fh, b2.grow g3, b3, h3, fun b q => hq _ _ (k b H3 F3 ((g1.trans g2).trans g3) q)⟩⟩
      | false => exact hq _ _ (k false H2 F2 (g1.trans g2) q)⟩⟩⟩⟩
theorem rdV_vT {t : CT} {σ : L2.St} {H : Hp} {Q' : VK} (h : rdV X.K E (vT t) σ H Q') : rdT X.K E t σ H fun b H' => Q' (.bl b) H' := by
  obtain ⟨B, F0, F, ρ, Q, re, h, k⟩ := h
  exact ⟨B, F0, F, ρ, _, re, h, fun b H1 F1 g1 q => k (.bl b) H1 F1 (.bl b, false) g1 (Val.of (.bl b)) q⟩
theorem re_cm {op : CmpOp} (hu : X.A.units + 65 < cLine) (ha : PE X a (rdB X.K E xa)) (hb : PE X b (rdB X.K E xb)) (hm : behindInMarks op b = false) : PE X (.Compare a [op] [b] pos) (rdV X.K E (vT (tCm op xa xb))) :=
  (pe_cmpR (op_cmp hu op) ha hb hm).imp fun σ H Q' h => rd_cm (fun _ _ q => q) (rdV_vT h)
theorem re_ch {op op' : CmpOp} (hu : X.A.units + 65 < cLine) (ha : PE X a (rdB X.K E xa)) (hb : PE X b (rdB X.K E xb)) (hc : PE X c3 (rdB X.K E xc)) (hm : lastMarks [op, op'] [b, c3] = false) :
    PE X (.Compare a [op, op'] [b, c3] pos) (rdV X.K E (vT (tCh op op' xa xb xc))) :=
  (pe_chain (op_cmp hu op) (op_cmp hu op') ha hb hc hm).imp fun σ H Q' h => rd_ch (fun _ _ q => q) (rdV_vT h)
theorem rt_cm {op : CmpOp} (hu : X.A.units + 65 < cLine) (ha : PE X a (rdB X.K E xa)) (hb : PE X b (rdB X.K E xb)) (hm : behindInMarks op b = false) : PT X (.Compare a [op] [b] pos) (rdT X.K E (tCm op xa xb)) :=
  (pt_cmpR (op_cmp hu op) ha hb hm).imp fun σ H Q' h => rd_cm (Q' := fun x H' => ∃ k, x = .bl k ∧ Q' k H') (fun b H' q => ⟨b, rfl, q⟩) h
theorem rt_ch {op op' : CmpOp} (hu : X.A.units + 65 < cLine) (ha : PE X a (rdB X.K E xa)) (hb : PE X b (rdB X.K E xb)) (hc : PE X c3 (rdB X.K E xc)) (hm : lastMarks [op, op'] [b, c3] = false) :
    PT X (.Compare a [op, op'] [b, c3] pos) (rdT X.K E (tCh op op' xa xb xc)) :=
  (pt_chain (op_cmp hu op) (op_cmp hu op') ha hb hc hm).imp fun σ H Q' h => rd_ch (Q' := fun x H' => ∃ k, x = .bl k ∧ Q' k H') (fun b H' q => ⟨b, rfl, q⟩) h

/-! ### tests -/
def tTru (a : CB) : CT := fun ρ => bnd (a ρ) truM
def tNo (a : CT) : CT := fun ρ => bnd (a ρ) fun k => ret (!k)
def tAn (a b : CT) : CT := fun ρ => bnd (a ρ) fun k => if k = true then b ρ else ret false
def tOr' (a b : CT) : CT := fun ρ => bnd (a ρ) fun k => if k = true then ret true else b ρ
theorem rt_tru (ha : PE X a (rdB X.K E xa)) (he : ∀ whole, isTrue a X.env whole = (do let v ← whole; standAt a.pos; holding [v] (truthy v))) : PT X a (rdT X.K E (tTru xa)) :=
  (pt_truth ha he).imp fun σ H Q' ⟨B, F0, F, ρ, Q, re, h, k⟩ => ⟨B, F0, F, ρ, _, re, h, fun v H1 F1 d g1 b1 h1 => by
    obtain ⟨b, t, q⟩ := truM_ok (b1.rep g1.fh) h1
    exact ⟨b, t, k b H1 F1 g1 q⟩⟩
theorem rt_not (ha : PT X a (rdT X.K E ta)) : PT X (.UnaryOp .Not a pos) (rdT X.K E (tNo ta)) :=
  (pt_not ha).imp fun σ H Q' ⟨B, F0, F, ρ, Q, re, h, k⟩ => ⟨B, F0, F, ρ, _, re, h, fun b H1 F1 g1 q => k (!b) H1 F1 g1 q⟩
theorem rw_and {rest : List Expr} (ha : PT X a (rdT X.K E ta)) (hb : PW X (.BoolOp .And (b :: rest) pos) (rdT X.K E tb)) : PW X (.BoolOp .And (a :: b :: rest) pos) (rdT X.K E (tAn ta tb)) :=
  (pw_and ha hb).imp fun σ H Q' ⟨B, F0, F, ρ, Q, re, h, k⟩ => ⟨B, F0, F, ρ, _, re, h, fun b H1 F1 g1 q => by
    cases b with
    | true => exact ⟨B, F0, F1, ρ, Q, re.grow g1, q, fun b H2 F2 g2 q2 => k b H2 F2 (g1.trans g2) q2⟩
    | false => exact k false H1 F1 g1 q⟩
theorem rw_or {rest : List Expr} (ha : PT X a (rdT X.K E ta)) (hb : PW X (.BoolOp .Or (b :: rest) pos) (rdT X.K E tb)) : PW X (.BoolOp .Or (a :: b :: rest) pos) (rdT X.K E (tOr' ta tb)) :=
  (pw_or ha hb).imp fun σ H Q' ⟨B, F0, F, ρ, Q, re, h, k⟩ => ⟨B, F0, F, ρ, _, re, h, fun b H1 F1 g1 q => by
    cases b with
    | false => exact ⟨B, F0, F1, ρ, Q, re.grow g1, q, fun b H2 F2 g2 q2 => k b H2 F2 (g1.trans g2) q2⟩
    | true => exact k true H1 F1 g1 q⟩

/-! ### lists of values -/
def cNil : CL := fun _ => ret []
def cCons (a : CB) (l : CL) : CL := fun ρ => bnd (a ρ) fun d => bnd (l ρ) fun ds => ret (d :: ds)
theorem rl_nil : PA X [] (rdL X.K E 0 cNil) := pa_nil.imp fun σ H Q' ⟨B, F0, F, ρ, Q, re, h, k⟩ => k [] H F [] re.gr .nil rfl h
theorem rl_cons {n : Nat} (ha : PE X a (rdF X.K E xa)) (hl : PA X es (rdL X.K E n cl)) (hs : starEach (a :: es) X.env = (false, eval a X.env) :: starEach es X.env) : PA X (a :: es) (rdL X.K E (n + 1) (cCons xa cl)) :=
  (pa_cons ha hl hs).imp fun σ H Q' ⟨B, F0, F, ρ, Q, re, h, k⟩ => ⟨B, F0, F, ρ, _, re, h, fun v H1 F1 d g1 b1 h1 => ⟨B, F0, F1, ρ, _, re.grow g1, h1, fun vs H2 F2 ds g2 r2 hn q =>
    k (v :: vs) H2 F2 (d :: ds) (g1.trans g2) (.cons (b1.mono g2.f) r2) (by rw [List.length_cons, hn]) q⟩⟩
theorem rm_nil : PA X [] (rdM X.K E cNil) := pa_nil.imp fun σ H Q' ⟨B, F0, F, ρ, Q, re, h, k⟩ => k [] H F [] re.gr .nil h
theorem rm_cons (ha : PE X a (rdB X.K E xa)) (hl : PA X es (rdM X.K E cl)) (hs : starEach (a :: es) X.env = (false, eval a X.env) :: starEach es X.env) : PA X (a :: es) (rdM X.K E (cCons xa cl)) :=
  (pa_cons ha hl hs).imp fun σ H Q' ⟨B, F0, F, ρ, Q, re, h, k⟩ => ⟨B, F0, F, ρ, _, re, h, fun v H1 F1 d g1 b1 h1 => ⟨B, F0, F1, ρ, _, re.grow g1, h1, fun vs H2 F2 ds g2 r2 q =>
    k (v :: vs) H2 F2 (d :: ds) (g1.trans g2) (.cons (b1.grow g2) r2) q⟩⟩
def cTup (l : CL) : CV := fun ρ => bnd (l ρ) fun ds Q _ => ds.length ≤ sizeLine ∧ Q (.tup ds, false)
def cLst (l : CL) : CV := fun ρ => bnd (l ρ) fun ds Q _ => ds.length ≤ sizeLine ∧ Q (.lst ds, true)
theorem re_tup {j n : Nat} (hl : PA X es (rdL X.K E n cl)) : PE X (.Tuple es j pos) (rdV X.K E (cTup cl)) :=
  (pe_tup hl).imp fun σ H Q' ⟨B, F0, F, ρ, Q, re, h, k⟩ => ⟨B, F0, F, ρ, _, re, h, fun vs H1 F1 ds g1 r1 _ q => ⟨by rw [r1.length]; exact q.1,
    new_tup g1.fh r1 q.2 fun w F2 H2 r g2 v2 q2 => k w H2 F2 r (g1.trans g2) (v2.back g1) q2⟩⟩
theorem re_lst {n : Nat} (hl : PA X es (rdL X.K E n cl)) : PE X (.List es pos) (rdV X.K E (cLst cl)) :=
  (pe_lst hl).imp fun σ H Q' ⟨B, F0, F, ρ, Q, re, h, k⟩ => ⟨B, F0, F, ρ, _, re, h, fun vs H1 F1 ds g1 r1 _ q => ⟨by rw [r1.length]; exact q.1,
    new_own g1.fh r1 q.2 fun w F2 H2 r g2 v2 q2 => k w H2 F2 r (g1.trans g2) (v2.back g1) q2⟩⟩

/-! ### subscripts -/
def cIx (a b : CB) : CV := fun ρ => bnd (a ρ) fun x => bnd (b ρ) fun y => bnd (ixM x y) fun d => ret (d, false)
theorem re_ix (ha : PE X a (rdB X.K E xa)) (hb : PE X b (rdB X.K E xb)) (hs : PlainIx b) : PE X (.Subscript a b pos) (rdV X.K E (cIx xa xb)) :=
  (pe_ix ix_ok ha hb hs).imp fun σ H Q' ⟨B, F0, F, ρ, Q, re, h, k⟩ =>
    ⟨B, F0, F, ρ, _, re, h, fun v H1 F1 d g1 b1 h1 => ⟨B, F0, F1, ρ, _, re.grow g1, h1, fun u H2 F2 d2 g2 b2 h2 =>
      ⟨F2, d, d2, _, E, g2.fh, b1.grow g2, b2, h2, fun w d3 r3 q => k w H2 F2 (d3, false) (g1.trans g2) (Val.of r3) q⟩⟩⟩
abbrev CO := Env → M (Option Int)
def oNo : CO := fun _ => ret none
def oIs (a : CB) : CO := fun ρ => bnd (a ρ) fun x => match x with
  | .int i => ret (some i)
  | _ => fail
def rdO (K : PySem.W.Frag) (E : Xn → Prop) (c : CO) : TO := fun σ H Q' => ∃ B F0 F ρ Q, REnv K B F0 F H σ ρ ∧ c ρ Q E ∧ ∀ o H' F', Grow F H F' H' → Q o → Q' o H'
theorem ro_no : PO X none (rdO X.K E oNo) := PO.imp po_none fun σ H Q' ⟨B, F0, F, ρ, Q, re, h, k⟩ => k none H F re.gr h
theorem ro_is (ha : PE X a (rdB X.K E xa)) : PO X (some a) (rdO X.K E (oIs xa)) := PO.imp (po_some ha) fun σ H Q' ⟨B, F0, F, ρ, Q, re, h, k⟩ => ⟨B, F0, F, ρ, _, re, h, fun v H1 F1 d g1 b1 h1 => by
  cases d with
  | int i =>
    cases b1.int
    exact ⟨i, rfl, k _ H1 F1 g1 h1⟩
  | _ => exact h1.elim⟩
def cSl (a : CB) (lo hi : CO) : CV := fun ρ => bnd (a ρ) fun x => bnd (lo ρ) fun l => bnd (hi ρ) fun u => slM x l u
theorem re_sl {lo hi : Option Expr} {p2 : Pos} {ol oh : CO} (ha : PE X a (rdB X.K E xa)) (hl : PO X lo (rdO X.K E ol)) (hh : PO X hi (rdO X.K E oh)) : PE X (.Subscript a (.Slice lo hi none p2) pos) (rdV X.K E (cSl xa ol oh)) :=
  (pe_slice sl_ok ha hl hh).imp fun σ H Q' ⟨B, F0, F, ρ, Q, re, h, k⟩ =>
    ⟨B, F0, F, ρ, _, re, h, fun v H1 F1 d g1 b1 h1 => ⟨B, F0, F1, ρ, _, re.grow g1, h1, fun l H2 F2 g2 h2 => ⟨B, F0, F2, ρ, _, (re.grow g1).grow g2, h2, fun u H3 F3 g3 h3 =>
      ⟨F3, d, Q, E, g3.fh, b1.grow (g2.trans g3), h3, fun w F4 H4 r g4 v4 q => k w H4 F4 r (((g1.trans g2).trans g3).trans g4) (v4.back ((g1.trans g2).trans g3)) q⟩⟩⟩⟩
end
end DL

namespace DL
open PySem L2

/-! ### a def called -/
def SpF (fl : Bool) (K : PySem.W.Frag) (n : Nat) (m : List D → M D) : Sp := fun vs H Q _ => vs.length = n ∧ ∃ F ds QD ED, Same F H ∧ RepL K F vs ds ∧ m ds QD ED ∧ ∀ v H' F' d, Grow F H F' H' → Val K F' H' H v (d, fl) → QD d → Q v H'
abbrev SpM := SpF false
theorem Val.rep {K : PySem.W.Frag} {F H H0 : Hp} {v : V} {d : D} (h : Val K F H H0 v (d, false)) : Rep K F v d := by
  unfold Val at h
  rw [if_neg (show ¬ ((d, false).2 = true) from Bool.false_ne_true)] at h
  exact h
def callD (n : Nat) (m : List D → M D) (ds : List D) : M (D × Bool) := fun Q E => ds.length = n ∧ m ds (fun d => Q (d, false)) E
def callF (fl : Bool) (n : Nat) (m : List D → M D) (ds : List D) : M (D × Bool) := fun Q E => ds.length = n ∧ m ds (fun d => Q (d, fl)) E
def cCall (n : Nat) (m : List D → M D) (l : CL) : CV := fun ρ => bnd (l ρ) fun ds => callD n m ds
def cCallF (fl : Bool) (n : Nat) (m : List D → M D) (l : CL) : CV := fun ρ => bnd (l ρ) fun ds => callF fl n m ds
/-- the places of a call's values in the order of the parameters -/
def pick {α : Type} (is : List Nat) (xs : List α) : List α := is.filterMap fun i => xs[i]?
def cCallK (n : Nat) (is : List Nat) (m : List D → M D) (l k : CL) : CV := fun ρ => bnd (l ρ) fun ds => bnd (k ρ) fun es => callD n m (pick is (ds ++ es))
def cCallKF (fl : Bool) (n : Nat) (is : List Nat) (m : List D → M D) (l k : CL) : CV := fun ρ => bnd (l ρ) fun ds => bnd (k ρ) fun es => callF fl n m (pick is (ds ++ es))
theorem RepL.pick {K : PySem.W.Frag} {F : Hp} {vs : List V} {ds : List D} (r : RepL K F vs ds) : ∀ is : List Nat, RepL K F (pick is vs) (pick is ds)
  | [] => .nil
  | i :: is => by
    have ih := RepL.pick r is
    unfold DL.pick at ih ⊢
    cases h : vs[i]? with
    | none =>
      have h2 : ds[i]? = none := by
        rw [List.getElem?_eq_none_iff] at h ⊢
        rw [← r.length]; exact h
      rw [List.filterMap_cons_none h, List.filterMap_cons_none h2]
      exact ih
    | some v =>
      obtain ⟨d, h2, q⟩ := r.getV h
      rw [List.filterMap_cons_some h, List.filterMap_cons_some h2]
      exact .cons q ih
theorem vals_pick {vs : List V} {us : List Value} (r : Vals vs us) : ∀ is : List Nat, Vals (pick is vs) (pick is us)
  | [] => .nil
  | i :: is => by
    have ih := vals_pick r is
    unfold DL.pick at ih ⊢
    cases h : vs[i]? with
    | none => rw [List.filterMap_cons_none h, List.filterMap_cons_none (r.none_of h)]; exact ih
    | some v =>
      obtain ⟨u, h2, q⟩ := r.get h
      rw [List.filterMap_cons_some h, List.filterMap_cons_some h2]
      exact .cons q ih
section
variable {X : Cx} {E : Xn → Prop} {e a b c3 : Expr} {c ca cb cc : CV} {xa xb xc : CB} {ta tb : CT} {es : List Expr} {cl ck : CL} {pos p : Pos} {k : Nat} {f : Addr} {fd : FuncData} {ps ks : List Str} {x : Str} {m : List D → M D} {kws : List Keyword} {fl : Bool}
theorem sp_of {H H1 F F1 : Hp} {Q : D × Bool → Prop} {Q' : VK} {vs : List V} {ds : List D} (kq : ∀ v H' F' r, Grow F H F' H' → Val X.K F' H' H v r → Q r → Q' v H') (g1 : Grow F H F1 H1) (r1 : RepL X.K F1 vs ds) (h : callF fl ps.length m ds Q E) :
    SpF fl X.K ps.length m vs H1 Q' E0 :=
  ⟨by rw [r1.length]; exact h.1, F1, ds, _, E, g1.fh, r1, h.2, fun v H2 F2 d g2 r2 q2 => kq v H2 F2 (d, fl) (g1.trans g2) (r2.back g1) q2⟩
theorem re_call (F : FnG X.prog X.w X.K X.mg X.base CX0 k f fd ps (SpF fl X.K ps.length m)) (hr : Room k X.A) (gd : X.A.guards = some []) (hg : Gl X x) (hm : X.mg x = some (.ref f)) (hk : PySem.W.keepIn X.K (.ref f) = true) (hb : Binds X.K fd ps [])
    {n : Nat} (hl : PA X (e :: es) (rdL X.K E n cl)) (hdb : (x == ("__debug__" : Str)) = false) (hs : starEach (e :: es) X.env = (false, eval e X.env) :: starEach es X.env) (hpl : (backTo pos (starEach es X.env)).any (·.1) = false) :
    PE X (.Call (.Name x p) (e :: es) [] pos) (rdV X.K E (cCallF fl ps.length m cl)) :=
  (pe_callG F hr gd hg hm hk hb .nil pass0 hl hdb hs hpl).imp fun σ H Q' ⟨B, F0, F, ρ, Q, re, h, kq⟩ => ⟨B, F0, F, ρ, _, re, h, fun vs H1 F1 ds g1 r1 _ q => by
    show SpF fl X.K ps.length m (vs ++ []) H1 Q' E0
    rw [List.append_nil]
    exact sp_of kq g1 r1 q⟩
theorem re_call0 (F : FnG X.prog X.w X.K X.mg X.base CX0 k f fd ps (SpF fl X.K ps.length m)) (hr : Room k X.A) (gd : X.A.guards = some []) (hg : Gl X x) (hm : X.mg x = some (.ref f)) (hk : PySem.W.keepIn X.K (.ref f) = true) (hb : Binds X.K fd ps [])
    (hdb : (x == ("__debug__" : Str)) = false) : PE X (.Call (.Name x p) [] [] pos) (rdV X.K E (cCallF fl ps.length m cNil)) :=
  (pe_callG0 F hr gd hg hm hk hb .nil pass0 hdb).imp fun σ H Q' ⟨B, F0, F, ρ, Q, re, h, kq⟩ => sp_of kq re.gr .nil h
theorem rk_nil : PK X [] (rdL X.K E 0 cNil) := ⟨fun pos pins s σ H Q' I ⟨B, F0, F, ρ, Q, re, h, k⟩ => pk_nil.run pos pins s σ H Q' I (k [] H F [] re.gr .nil rfl h)⟩
theorem rk_cons {n : Nat} {nm : Option Str} {kp : Pos} (ha : PE X a (rdF X.K E xa)) (hl : PK X kws (rdL X.K E n cl)) : PK X (⟨nm, a, kp⟩ :: kws) (rdL X.K E (n + 1) (cCons xa cl)) :=
  ⟨fun pos pins s σ H Q' I ⟨B, F0, F, ρ, Q, re, h, k⟩ => (pk_cons ha hl).run pos pins s σ H Q' I ⟨B, F0, F, ρ, _, re, h, fun v H1 F1 d g1 b1 h1 => ⟨B, F0, F1, ρ, _, re.grow g1, h1, fun vs H2 F2 ds g2 r2 hn q =>
    k (v :: vs) H2 F2 (d :: ds) (g1.trans g2) (.cons (b1.mono g2.f) r2) (by rw [List.length_cons, hn]) q⟩⟩⟩
/-- how a call of so many places and these keywords binds -/
structure KwOk (K : PySem.W.Frag) (fd : FuncData) (ps : List Str) (n : Nat) (ks : List Str) (is : List Nat) : Prop where
  to : ∀ (s : Shared) (us ws : List Value), K.In s.heap → us.length = n → ws.length = ks.length → BindsTo s fd ⟨us, ks.zip ws⟩ (ps.zip (pick is (us ++ ws)))
theorem kw_pairs (env : PySem.Env) : ∀ l : List Keyword, keywordEach l env = l.map fun k => (k.arg, eval k.value env)
  | [] => rfl
  | ⟨n1, v1, p1⟩ :: l => by
    show (n1, eval v1 env) :: keywordEach l env = _
    rw [kw_pairs env l]
    rfl
theorem kw_names {env : PySem.Env} (hks : kws.map (·.arg) = ks.map some) : (backToKw pos (keywordEach kws env)).map (·.1) = ks.map some := by
  rw [kw_pairs, ← hks]
  unfold backToKw
  rw [List.map_map, List.map_map]
  rfl
theorem kw_all {env : PySem.Env} (hks : kws.map (·.arg) = ks.map some) : (backToKw pos (keywordEach kws env)).all (·.1.isSome) = true := by
  rw [List.all_eq_true]
  intro z hz
  have := List.mem_map_of_mem (f := (·.1)) hz
  rw [kw_names hks] at this
  obtain ⟨y, _, e⟩ := List.mem_map.mp this
  rw [← e]; rfl
theorem kw_keys {env : PySem.Env} (hks : kws.map (·.arg) = ks.map some) : (backToKw pos (keywordEach kws env)).filterMap (·.1) = ks := by
  have : (backToKw pos (keywordEach kws env)).filterMap (·.1) = ((backToKw pos (keywordEach kws env)).map (·.1)).filterMap id := by rw [List.filterMap_map]; rfl
  rw [this, kw_names hks, List.filterMap_map]
  show ks.filterMap (fun z => some z) = ks
  rw [List.filterMap_some]
theorem kw_none {env : PySem.Env} (hks : kws.map (·.arg) = ks.map some) : (backToKw pos (keywordEach kws env)).any (·.1.isNone) = false := by
  rw [List.any_eq_false]
  intro z hz
  have := List.all_eq_true.mp (kw_all hks) z hz
  cases q : z.1 with
  | none => rw [q] at this; cases this
  | some y => exact Bool.false_ne_true
theorem kw_fin {n : Nat} {is : List Nat} (F : FnG X.prog X.w X.K X.mg X.base CX0 k f fd ps (SpF fl X.K ps.length m)) (hr : Room k X.A) (gd : X.A.guards = some []) (hb : KwOk X.K fd ps n ks is)
    {pins : List (Addr × Obj)} {σ : L2.St} {H F0 : Hp} {Q : D × Bool → Prop} {Q' : VK} (kq : ∀ v H' F' r, Grow F0 H F' H' → Val X.K F' H' H v r → Q r → Q' v H')
    {s2 : Shared} {us ws : List Value} {vs zs : List V} {ds dz : List D} {H1 F1 : Hp} (I2 : Inv X pins σ H1 s2) (rv : Vals vs us) (rz : Vals zs ws) (g1 : Grow F0 H F1 H1) (r1 : RepL X.K F1 vs ds) (r2 : RepL X.K F1 zs dz) (e1 : vs.length = n) (e2 : zs.length = ks.length)
    (q : callF fl ps.length m (pick is (ds ++ dz)) Q E) : wpAny (model X.prog X.w) X.A (call (.ref f) us (ks.zip ws)) (EP X pins σ Q') X.xe s2 :=
  runG (args := ⟨us, ks.zip ws⟩) (ws := []) F hr gd (hb.to s2 us ws I2.kIn (by rw [← rv.length]; exact e1) (by rw [← rz.length]; exact e2)) pass0 I2 (vals_pick (rv.append rz) is) (sp_of kq g1 ((r1.append r2).pick is) q)
theorem re_callK {n : Nat} {is : List Nat} (F : FnG X.prog X.w X.K X.mg X.base CX0 k f fd ps (SpF fl X.K ps.length m)) (hr : Room k X.A) (gd : X.A.guards = some []) (hg : Gl X x) (hm : X.mg x = some (.ref f)) (hk : PySem.W.keepIn X.K (.ref f) = true) (hb : KwOk X.K fd ps n ks is)
    (hl : PA X (e :: es) (rdL X.K E n cl)) (hkw : PK X kws (rdL X.K E ks.length ck)) (hs : starEach (e :: es) X.env = (false, eval e X.env) :: starEach es X.env) (hpl : (backTo pos (starEach (e :: es) X.env)).any (·.1) = false)
    (hks : kws.map (·.arg) = ks.map some) (hdb : (x == ("__debug__" : Str)) = false) :
    PE X (.Call (.Name x p) (e :: es) kws pos) (rdV X.K E (cCallKF fl ps.length is m cl ck)) := by
  refine ⟨fun pins s σ H Q' I hw => ?_⟩
  obtain ⟨B, F0, Fz, ρ, Q, re, h, kq⟩ := hw
  refine wpAny_Call_Name_kw (ld_glob I hg hm ?_ hdb)
  refine PySem.W.callWith_KW (h₀ := X.base) I.ok.mod.kin hk (kw_all hks) (thn (hl.run pos pins s σ H (fun vs H1 => ∃ F1 ds, Grow Fz H F1 H1 ∧ RepL X.K F1 vs ds ∧ vs.length = n ∧ ck ρ (fun es => callF fl ps.length m (pick is (ds ++ es)) Q E) E) I
    ⟨B, F0, Fz, ρ, _, re, h, fun vs H1 F1 ds g1 r1 hn q => ⟨F1, ds, g1, r1, hn, q⟩⟩) ?_) (by rw [hpl, kw_none hks]; rfl) hs
  rintro us s1 ⟨vs, H1, I1, rv, F1, ds, g1, r1, hn, q⟩
  refine thn (hkw.run pos pins s1 σ H1 (fun zs H2 => ∃ F2 dz, Grow F1 H1 F2 H2 ∧ RepL X.K F2 zs dz ∧ zs.length = ks.length ∧ callF fl ps.length m (pick is (ds ++ dz)) Q E) I1
    ⟨B, F0, F1, ρ, _, re.grow g1, q, fun zs H2 F2 dz g2 r2 hn2 q2 => ⟨F2, dz, g2, r2, hn2, q2⟩⟩) ?_
  rintro ws s2 ⟨zs, H2, I2, rz, F2, dz, g2, r2, hn2, q2⟩
  refine ⟨I2.kIn, ?_⟩
  rw [kw_keys hks]
  exact kw_fin F hr gd hb kq I2 rv rz (g1.trans g2) (r1.mono g2.f) r2 hn hn2 q2
theorem re_callK0 {is : List Nat} (F : FnG X.prog X.w X.K X.mg X.base CX0 k f fd ps (SpF fl X.K ps.length m)) (hr : Room k X.A) (gd : X.A.guards = some []) (hg : Gl X x) (hm : X.mg x = some (.ref f)) (hk : PySem.W.keepIn X.K (.ref f) = true) (hb : KwOk X.K fd ps 0 ks is)
    (hkw : PK X kws (rdL X.K E ks.length ck)) (hks : kws.map (·.arg) = ks.map some) (hdb : (x == ("__debug__" : Str)) = false) :
    PE X (.Call (.Name x p) [] kws pos) (rdV X.K E (cCallKF fl ps.length is m cNil ck)) := by
  refine ⟨fun pins s σ H Q' I hw => ?_⟩
  obtain ⟨B, F0, Fz, ρ, Q, re, h, kq⟩ := hw
  refine wpAny_Call_Name_kw (ld_glob I hg hm ?_ hdb)
  refine PySem.W.callWith_KW0 (h₀ := X.base) I.ok.mod.kin hk (kw_all hks) (thn (hkw.run pos pins s σ H (fun zs H2 => ∃ F2 dz, Grow Fz H F2 H2 ∧ RepL X.K F2 zs dz ∧ zs.length = ks.length ∧ callF fl ps.length m (pick is ([] ++ dz)) Q E) I
    ⟨B, F0, Fz, ρ, _, re, h, fun zs H2 F2 dz g2 r2 hn2 q2 => ⟨F2, dz, g2, r2, hn2, q2⟩⟩) ?_) (by rw [kw_none hks]; rfl)
  rintro ws s2 ⟨zs, H2, I2, rz, F2, dz, g2, r2, hn2, q2⟩
  refine ⟨I2.kIn, ?_⟩
  rw [kw_keys hks]
  exact kw_fin (us := []) (vs := []) (ds := []) F hr gd hb kq I2 .nil rz g2 .nil r2 rfl hn2 q2
end
end DL

namespace DL
open PySem L2

/-! ### built-ins, by what they give -/
def rcM (K : PySem.W.Frag) (m : List D → M (D × Bool)) : List V → Hp → VK → Prop := fun vs H Q => ∃ F ds Q2 E, Same F H ∧ BorL K F H vs ds ∧ m ds Q2 E ∧
  ∀ v F' H' r, Grow F H F' H' → Val K F' H' H v r → Q2 r → Q v H'
def cB (m : List D → M (D × Bool)) (l : CL) : CV := fun ρ => bnd (l ρ) fun ds => m ds
theorem call_rcM {X : Cx} {E : Xn → Prop} {cl : CL} {σ : L2.St} {H : Hp} {Q' : VK} {m : List D → M (D × Bool)} (h : rdV X.K E (cB m cl) σ H Q') : tCB (rcM X.K m) (rdM X.K E cl) σ H Q' := by
  obtain ⟨B, F0, F, ρ, Q, re, h, k⟩ := h
  exact ⟨B, F0, F, ρ, _, re, h, fun vs H1 F1 ds g1 b1 q => ⟨F1, ds, Q, E, g1.fh, b1, q, fun v F2 H2 r g2 v2 q2 => k v H2 F2 r (g1.trans g2) (v2.back g1) q2⟩⟩
section
variable {X : Cx} {E : Xn → Prop} {e : Expr} {es : List Expr} {cl : CL} {x : Str} {p pos : Pos} {m : List D → M (D × Bool)} {id T : String}
theorem re_callB (hc : CallR X (.builtin id) (rcM X.K m)) (hg : Gl X x) (hm : X.mg x = none) (hv : bootBuiltins x = some (.builtin id)) (ha : PA X (e :: es) (rdM X.K E cl)) (hn : x ≠ "__name__") (hdb : (x == ("__debug__" : Str)) = false)
    (hs : starEach (e :: es) X.env = (false, eval e X.env) :: starEach es X.env) (hpl : (backTo pos (starEach es X.env)).any (·.1) = false) : PE X (.Call (.Name x p) (e :: es) [] pos) (rdV X.K E (cB m cl)) :=
  (pe_callB hc hg hm hv ha hn hdb hs hpl).imp fun σ H Q' h => call_rcM h
theorem re_callT (hc : CallR X (.type T) (rcM X.K m)) (hg : Gl X x) (hm : X.mg x = none) (hv : bootBuiltins x = some (.type T)) (ha : PA X (e :: es) (rdM X.K E cl)) (hn : x ≠ "__name__") (hdb : (x == ("__debug__" : Str)) = false)
    (hs : starEach (e :: es) X.env = (false, eval e X.env) :: starEach es X.env) (hpl : (backTo pos (starEach es X.env)).any (·.1) = false) : PE X (.Call (.Name x p) (e :: es) [] pos) (rdV X.K E (cB m cl)) :=
  (pe_callTy hc hg hm hv ha hn hdb hs hpl).imp fun σ H Q' h => call_rcM h
end

def intsD : List D → Option (List Int)
  | [] => some []
  | .int i :: r => (intsD r).map (i :: ·)
  | _ => none
def blsD : List D → Option (List Bool)
  | [] => some []
  | .bl i :: r => (blsD r).map (i :: ·)
  | _ => none
def strsD : List D → Option (List Str)
  | [] => some []
  | .str i :: r => (strsD r).map (i :: ·)
  | _ => none
section
variable {K : PySem.W.Frag} {F H : Hp}
theorem RepL.ints : ∀ {ds : List D} {vs : List V} {ns : List Int}, RepL K H vs ds → intsD ds = some ns → vs = ns.map V.int
  | [], _, _, .nil, e => by simp only [intsD, Option.some.injEq] at e; subst e; rfl
  | .int i :: ds, _, _, .cons (.int _) t, e => by
    simp only [intsD] at e
    cases q : intsD ds with
    | none => rw [q] at e; cases e
    | some ns => rw [q] at e; simp only [Option.map_some, Option.some.injEq] at e; subst e; rw [RepL.ints t q]; rfl
  | .non :: _, _, _, _, e | .bl _ :: _, _, _, _, e | .str _ :: _, _, _, _, e | .lst _ :: _, _, _, _, e | .tup _ :: _, _, _, _, e | .dct _ :: _, _, _, _, e | .obj _ _ :: _, _, _, _, e | .raw _ :: _, _, _, _, e | .gen :: _, _, _, _, e | .scr _ :: _, _, _, _, e => by simp [intsD] at e
theorem RepL.bls : ∀ {ds : List D} {vs : List V} {ns : List Bool}, RepL K H vs ds → blsD ds = some ns → vs = ns.map V.bl
  | [], _, _, .nil, e => by simp only [blsD, Option.some.injEq] at e; subst e; rfl
  | .bl i :: ds, _, _, .cons (.bl _) t, e => by
    simp only [blsD] at e
    cases q : blsD ds with
    | none => rw [q] at e; cases e
    | some ns => rw [q] at e; simp only [Option.map_some, Option.some.injEq] at e; subst e; rw [RepL.bls t q]; rfl
  | .non :: _, _, _, _, e | .int _ :: _, _, _, _, e | .str _ :: _, _, _, _, e | .lst _ :: _, _, _, _, e | .tup _ :: _, _, _, _, e | .dct _ :: _, _, _, _, e | .obj _ _ :: _, _, _, _, e | .raw _ :: _, _, _, _, e | .gen :: _, _, _, _, e | .scr _ :: _, _, _, _, e => by simp [blsD] at e
theorem RepL.strs : ∀ {ds : List D} {vs : List V} {ns : List Str}, RepL K H vs ds → strsD ds = some ns → vs = ns.map V.str
  | [], _, _, .nil, e => by simp only [strsD, Option.some.injEq] at e; subst e; rfl
  | .str i :: ds, _, _, .cons (.str _) t, e => by
    simp only [strsD] at e
    cases q : strsD ds with
    | none => rw [q] at e; cases e
    | some ns => rw [q] at e; simp only [Option.map_some, Option.some.injEq] at e; subst e; rw [RepL.strs t q]; rfl
  | .non :: _, _, _, _, e | .int _ :: _, _, _, _, e | .bl _ :: _, _, _, _, e | .lst _ :: _, _, _, _, e | .tup _ :: _, _, _, _, e | .dct _ :: _, _, _, _, e | .obj _ _ :: _, _, _, _, e | .raw _ :: _, _, _, _, e | .gen :: _, _, _, _, e | .scr _ :: _, _, _, _, e => by simp [strsD] at e
theorem repL_ints (ns : List Int) : RepL K H (ns.map V.int) (ns.map D.int) := by
  induction ns with
  | nil => exact .nil
  | cons n ns ih => exact .cons (.int n) ih
theorem repL_strs (ns : List Str) : RepL K H (ns.map V.str) (ns.map D.str) := by
  induction ns with
  | nil => exact .nil
  | cons n ns ih => exact .cons (.str n) ih
end
theorem BorL.one {K : PySem.W.Frag} {F H : Hp} {vs : List V} {d : D} (b : BorL K F H vs [d]) : ∃ v, vs = [v] ∧ Bor K F H v d := by
  cases b with
  | cons r t => cases t; exact ⟨_, rfl, r⟩
theorem BorL.two {K : PySem.W.Frag} {F H : Hp} {vs : List V} {d e : D} (b : BorL K F H vs [d, e]) : ∃ v u, vs = [v, u] ∧ Bor K F H v d ∧ Bor K F H u e := by
  cases b with
  | cons r t => cases t with | cons r2 t2 => cases t2; exact ⟨_, _, rfl, r, r2⟩

def lenM : List D → M (D × Bool)
  | [.str z] => fun Q _ => z.length ≤ sizeLine ∧ Q (.int z.length, false)
  | [.lst ds] => ret (.int ds.length, false)
  | [.tup ds] => ret (.int ds.length, false)
  | [.dct kvs] => ret (.int kvs.length, false)
  | [.scr ns] => ret (.int ns.length, false)
  | _ => fail
def absM : List D → M (D × Bool)
  | [.int i] => ret (.int (if i < 0 then -i else i), false)
  | _ => fail
def listM : List D → M (D × Bool)
  | [.lst ds] => ret (.lst ds, true)
  | [.tup ds] => ret (.lst ds, true)
  | _ => fail
def tupleM : List D → M (D × Bool)
  | [.lst ds] => ret (.tup ds, false)
  | [.tup ds] => ret (.tup ds, false)
  | _ => fail
def allM : List D → M (D × Bool)
  | [.lst ds] => fun Q _ => match blsD ds with | some bs => Q (.bl (bs.all id), false) | none => False
  | _ => fail
def anyM : List D → M (D × Bool)
  | [.lst ds] => fun Q _ => match blsD ds with | some bs => Q (.bl (bs.any id), false) | none => False
  | _ => fail
def sumM : List D → M (D × Bool)
  | [.lst ds] => fun Q _ => match intsD ds with | some ns => Q (.int ns.sum, false) | none => False
  | _ => fail
/-- the greatest, the least -/
def topI : Int → List Int → Int
  | a, [] => a
  | a, b :: r => topI (if a < b then b else a) r
def lowI : Int → List Int → Int
  | a, [] => a
  | a, b :: r => lowI (if b < a then b else a) r
theorem topI_spec : ∀ (l : List Int) (a : Int), topI a l ∈ a :: l ∧ ∀ y ∈ a :: l, y ≤ topI a l
  | [], a => by simp [topI]
  | b :: r, a => by
    have ih := topI_spec r (if a < b then b else a)
    unfold topI
    by_cases h : a < b
    · rw [if_pos h] at ih ⊢
      refine ⟨List.mem_cons_of_mem _ ih.1, fun y hy => ?_⟩
      rcases List.mem_cons.mp hy with rfl | hy
      · have := ih.2 b List.mem_cons_self; omega
      · exact ih.2 y hy
    · rw [if_neg h] at ih ⊢
      refine ⟨?_, fun y hy => ?_⟩
      · rcases List.mem_cons.mp ih.1 with e | e
        · rw [e]; exact List.mem_cons_self
        · exact List.mem_cons_of_mem _ (List.mem_cons_of_mem _ e)
      · rcases List.mem_cons.mp hy with rfl | hy
        · exact ih.2 _ List.mem_cons_self
        · rcases List.mem_cons.mp hy with rfl | hy
          · have := ih.2 a List.mem_cons_self; omega
          · exact ih.2 y (List.mem_cons_of_mem _ hy)
theorem lowI_spec : ∀ (l : List Int) (a : Int), lowI a l ∈ a :: l ∧ ∀ y ∈ a :: l, lowI a l ≤ y
  | [], a => by simp [lowI]
  | b :: r, a => by
    have ih := lowI_spec r (if b < a then b else a)
    unfold lowI
    by_cases h : b < a
    · rw [if_pos h] at ih ⊢
      refine ⟨List.mem_cons_of_mem _ ih.1, fun y hy => ?_⟩
      rcases List.mem_cons.mp hy with rfl | hy
      · have := ih.2 b List.mem_cons_self; omega
      · exact ih.2 y hy
    · rw [if_neg h] at ih ⊢
      refine ⟨?_, fun y hy => ?_⟩
      · rcases List.mem_cons.mp ih.1 with e | e
        · rw [e]; exact List.mem_cons_self
        · exact List.mem_cons_of_mem _ (List.mem_cons_of_mem _ e)
      · rcases List.mem_cons.mp hy with rfl | hy
        · exact ih.2 _ List.mem_cons_self
        · rcases List.mem_cons.mp hy with rfl | hy
          · have := ih.2 a List.mem_cons_self; omega
          · exact ih.2 y (List.mem_cons_of_mem _ hy)
def maxM : List D → M (D × Bool)
  | [.lst ds] => fun Q _ => match intsD ds with | some (a :: r) => Q (.int (topI a r), false) | _ => False
  | [.int i, .int j] => ret (.int (if j > i then j else i), false)
  | _ => fail
def minM : List D → M (D × Bool)
  | [.lst ds] => fun Q _ => match intsD ds with | some (a :: r) => Q (.int (lowI a r), false) | _ => False
  | [.int i, .int j] => ret (.int (if j < i then j else i), false)
  | _ => fail
/-- sorted by insertion -/
def insI (a : Int) : List Int → List Int
  | [] => [a]
  | b :: r => if a ≤ b then a :: b :: r else b :: insI a r
def srtI : List Int → List Int
  | [] => []
  | a :: r => insI a (srtI r)
theorem insI_perm (a : Int) : ∀ l : List Int, (insI a l).Perm (a :: l)
  | [] => .refl _
  | b :: r => by
    unfold insI
    split
    · exact .refl _
    · exact ((insI_perm a r).cons b).trans (.swap a b r)
theorem srtI_perm : ∀ l : List Int, (srtI l).Perm l
  | [] => .refl _
  | a :: r => (insI_perm a _).trans ((srtI_perm r).cons a)
theorem insI_sorted (a : Int) : ∀ l : List Int, l.Pairwise (· ≤ ·) → (insI a l).Pairwise (· ≤ ·)
  | [], _ => by simp [insI]
  | b :: r, h => by
    unfold insI
    split
    · rename_i hab
      rw [List.pairwise_cons] at h ⊢
      refine ⟨fun y hy => ?_, List.pairwise_cons.mpr h⟩
      rcases List.mem_cons.mp hy with rfl | hy
      · exact hab
      · have := h.1 y hy; omega
    · rename_i hab
      rw [List.pairwise_cons] at h ⊢
      refine ⟨fun y hy => ?_, insI_sorted a r h.2⟩
      rcases List.mem_cons.mp ((insI_perm a r).mem_iff.mp hy) with rfl | hy
      · omega
      · exact h.1 y hy
theorem srtI_sorted : ∀ l : List Int, (srtI l).Pairwise (· ≤ ·)
  | [] => .nil
  | a :: r => insI_sorted a _ (srtI_sorted r)
theorem sorted_one {a b : List Int} (p : a.Perm b) (ha : a.Pairwise (· ≤ ·)) (hb : b.Pairwise (· ≤ ·)) : a = b := p.eq_of_pairwise (le := (· ≤ ·)) (fun x y _ _ h1 h2 => Int.le_antisymm h1 h2) ha hb
def sortedM : List D → M (D × Bool)
  | [.lst ds] => fun Q _ => match intsD ds with | some ns => Q (.lst ((srtI ns).map D.int), true) | none => False
  | _ => fail
def reprM : List D → M (D × Bool)
  | [d] => fun Q _ => match d.py with | some p => p.canLay0 = true ∧ p.showable = true ∧ p.shown.length ≤ sizeLine ∧ p.depth ≤ 100 ∧ Q (.str p.shown, false) | none => False
  | _ => fail

section
variable {X : Cx}
theorem b_len : CallR X (.builtin "len") (rcM X.K lenM) := by
  intro pins s σ H xs us Q I r h
  obtain ⟨F, ds, Q2, E, sm, b, h, k⟩ := h
  unfold lenM at h
  split at h
  · obtain ⟨v, rfl, b1⟩ := b.one
    cases b1.str
    exact call_len pins s σ H _ us Q I r ⟨_, _, rfl, ⟨h.1, rfl⟩, k _ F H _ (Grow.refl sm) (Val.of (.int _)) h.2⟩
  · obtain ⟨v, rfl, b1⟩ := b.one
    obtain ⟨a, vs, rfl, ha, ra⟩ := b1.lst sm
    exact call_len_seq pins s σ H _ us Q I r ⟨_, _, rfl, .inl (SqL.of ha), by rw [ra.length]; exact k _ F H _ (Grow.refl sm) (Val.of (.int _)) h⟩
  · obtain ⟨v, rfl, b1⟩ := b.one
    obtain ⟨a, vs, rfl, ha, ra⟩ := b1.tup sm
    exact call_len_seq pins s σ H _ us Q I r ⟨_, _, rfl, .inr ha, by rw [ra.length]; exact k _ F H _ (Grow.refl sm) (Val.of (.int _)) h⟩
  · rename_i kvs
    obtain ⟨v, rfl, b1⟩ := b.one
    have kl : ∀ {ks : List (Key × V)} {kvs : List (D × D)} {F : Hp}, RepK X.K F ks kvs → ks.length = kvs.length := by
      intro ks kvs F r
      induction ks generalizing kvs with
      | nil => cases r; rfl
      | cons z zs ih => cases r with | cons q t => rw [List.length_cons, List.length_cons, ih t]
    have fin : ∃ a ks, v = .ref a ∧ H a = some (.dK ks) ∧ RepK X.K F ks kvs := by
      rcases b1 with b | ⟨p, rfl, ks, h, r⟩
      · cases b with
        | dct h r => exact ⟨_, _, rfl, sm _ _ h, r⟩
      · exact ⟨p, ks, rfl, h, r⟩
    obtain ⟨a, ks, rfl, ha, ra⟩ := fin
    exact call_lenD pins s σ H _ us Q I r ⟨_, _, rfl, ha, by rw [kl ra]; exact k _ F H _ (Grow.refl sm) (Val.of (.int _)) h⟩
  · obtain ⟨v, rfl, b1⟩ := b.one
    obtain ⟨a, rfl, ha⟩ := b1.scr sm
    exact call_len_seq pins s σ H _ us Q I r ⟨_, _, rfl, .inl ha, by rw [List.length_map]; exact k _ F H _ (Grow.refl sm) (Val.of (.int _)) h⟩
  · exact h.elim
theorem b_abs : CallR X (.builtin "abs") (rcM X.K absM) := by
  intro pins s σ H xs us Q I r h
  obtain ⟨F, ds, Q2, E, sm, b, h, k⟩ := h
  unfold absM at h
  split at h
  · obtain ⟨v, rfl, b1⟩ := b.one
    cases b1.int
    exact call_abs pins s σ H _ us Q I r ⟨_, rfl, k _ F H _ (Grow.refl sm) (Val.of (.int _)) h⟩
  · exact h.elim
theorem b_list : CallR X (.type "list") (rcM X.K listM) := by
  intro pins s σ H xs us Q I r h
  obtain ⟨F, ds, Q2, E, sm, b, h, k⟩ := h
  unfold listM at h
  split at h
  · obtain ⟨v, rfl, b1⟩ := b.one
    obtain ⟨a, vs, rfl, ha, ra⟩ := b1.lst sm
    exact call_list_of pins s σ H _ us Q I r ⟨_, _, rfl, .inl (SqL.of ha), new_own sm ra h k⟩
  · obtain ⟨v, rfl, b1⟩ := b.one
    obtain ⟨a, vs, rfl, ha, ra⟩ := b1.tup sm
    exact call_list_of pins s σ H _ us Q I r ⟨_, _, rfl, .inr ha, new_own sm ra h k⟩
  · exact h.elim
theorem b_tuple : CallR X (.type "tuple") (rcM X.K tupleM) := by
  intro pins s σ H xs us Q I r h
  obtain ⟨F, ds, Q2, E, sm, b, h, k⟩ := h
  unfold tupleM at h
  split at h
  · obtain ⟨v, rfl, b1⟩ := b.one
    obtain ⟨a, vs, rfl, ha, ra⟩ := b1.lst sm
    exact call_tuple_of pins s σ H _ us Q I r ⟨_, _, rfl, .inl ⟨SqL.of ha, new_tup sm ra h k⟩⟩
  · obtain ⟨v, rfl, b1⟩ := b.one
    have hb := b1
    obtain ⟨a, vs, rfl, ha, ra⟩ := b1.tup sm
    refine call_tuple_of pins s σ H _ us Q I r ⟨_, _, rfl, .inr ⟨ha, ?_⟩⟩
    rcases hb with q | ⟨_, _, o⟩
    · exact k _ F H _ (Grow.refl sm) (Val.of q) h
    · exact o.elim
  · exact h.elim
theorem b_all (hc : X.calm = true) : CallR X (.builtin "all") (rcM X.K allM) := by
  intro pins s σ H xs us Q I r h
  obtain ⟨F, ds, Q2, E, sm, b, h, k⟩ := h
  unfold allM at h
  split at h
  · obtain ⟨v, rfl, b1⟩ := b.one
    obtain ⟨a, vs, rfl, ha, ra⟩ := b1.lst sm
    split at h
    · rename_i bs e
      cases ra.bls e
      exact cr_all hc pins s σ H _ us Q I r ⟨_, _, rfl, SqL.of ha, k _ F H _ (Grow.refl sm) (Val.of (.bl _)) h⟩
    · exact h.elim
  · exact h.elim
theorem b_any (hc : X.calm = true) : CallR X (.builtin "any") (rcM X.K anyM) := by
  intro pins s σ H xs us Q I r h
  obtain ⟨F, ds, Q2, E, sm, b, h, k⟩ := h
  unfold anyM at h
  split at h
  · obtain ⟨v, rfl, b1⟩ := b.one
    obtain ⟨a, vs, rfl, ha, ra⟩ := b1.lst sm
    split at h
    · rename_i bs e
      cases ra.bls e
      exact cr_any hc pins s σ H _ us Q I r ⟨_, _, rfl, SqL.of ha, k _ F H _ (Grow.refl sm) (Val.of (.bl _)) h⟩
    · exact h.elim
  · exact h.elim
theorem b_sum (hc : X.calm = true) : CallR X (.builtin "sum") (rcM X.K sumM) := by
  intro pins s σ H xs us Q I r h
  obtain ⟨F, ds, Q2, E, sm, b, h, k⟩ := h
  unfold sumM at h
  split at h
  · obtain ⟨v, rfl, b1⟩ := b.one
    obtain ⟨a, vs, rfl, ha, ra⟩ := b1.lst sm
    split at h
    · rename_i bs e
      cases ra.ints e
      exact cr_sum hc pins s σ H _ us Q I r ⟨_, _, rfl, SqL.of ha, k _ F H _ (Grow.refl sm) (Val.of (.int _)) h⟩
    · exact h.elim
  · exact h.elim
theorem b_max (hc : X.calm = true) : CallR X (.builtin "max") (rcM X.K maxM) := by
  intro pins s σ H xs us Q I r h
  obtain ⟨F, ds, Q2, E, sm, b, h, k⟩ := h
  unfold maxM at h
  split at h
  · obtain ⟨v, rfl, b1⟩ := b.one
    obtain ⟨a, vs, rfl, ha, ra⟩ := b1.lst sm
    split at h
    · rename_i n ns e
      cases ra.ints e
      obtain ⟨s1, s2⟩ := topI_spec ns n
      refine cr_max hc pins s σ H _ us Q I r ⟨_, n :: ns, rfl, SqL.of ha, Nat.succ_pos _, fun z hz hle => ?_⟩
      have e2 : z = topI n ns := Int.le_antisymm (s2 z hz) (hle _ s1)
      rw [e2]
      exact k _ F H _ (Grow.refl sm) (Val.of (.int _)) h
    · exact h.elim
  · obtain ⟨v, u, rfl, b1, b2⟩ := b.two
    cases b1.int; cases b2.int
    exact call_max2 hc pins s σ H _ us Q I r ⟨_, _, rfl, k _ F H _ (Grow.refl sm) (Val.of (.int _)) h⟩
  · exact h.elim
theorem b_min (hc : X.calm = true) : CallR X (.builtin "min") (rcM X.K minM) := by
  intro pins s σ H xs us Q I r h
  obtain ⟨F, ds, Q2, E, sm, b, h, k⟩ := h
  unfold minM at h
  split at h
  · obtain ⟨v, rfl, b1⟩ := b.one
    obtain ⟨a, vs, rfl, ha, ra⟩ := b1.lst sm
    split at h
    · rename_i n ns e
      cases ra.ints e
      obtain ⟨s1, s2⟩ := lowI_spec ns n
      refine cr_min hc pins s σ H _ us Q I r ⟨_, n :: ns, rfl, SqL.of ha, Nat.succ_pos _, fun z hz hle => ?_⟩
      have e2 : z = lowI n ns := Int.le_antisymm (hle _ s1) (s2 z hz)
      rw [e2]
      exact k _ F H _ (Grow.refl sm) (Val.of (.int _)) h
    · exact h.elim
  · obtain ⟨v, u, rfl, b1, b2⟩ := b.two
    cases b1.int; cases b2.int
    exact call_min2 hc pins s σ H _ us Q I r ⟨_, _, rfl, k _ F H _ (Grow.refl sm) (Val.of (.int _)) h⟩
  · exact h.elim
theorem b_sorted : CallR X (.builtin "sorted") (rcM X.K sortedM) := by
  intro pins s σ H xs us Q I r h
  obtain ⟨F, ds, Q2, E, sm, b, h, k⟩ := h
  unfold sortedM at h
  split at h
  · obtain ⟨v, rfl, b1⟩ := b.one
    obtain ⟨a, vs, rfl, ha, ra⟩ := b1.lst sm
    split at h
    · rename_i ns e
      cases ra.ints e
      refine cr_sortedI pins s σ H _ us Q I r ⟨_, ns, rfl, SqL.of ha, fun ns' p pm so hp => ?_⟩
      have e2 : ns' = srtI ns := sorted_one (pm.trans (srtI_perm ns).symm) so (srtI_sorted ns)
      rw [e2]
      exact new_own sm (repL_ints _) h k p hp
    · exact h.elim
  · exact h.elim
theorem b_repr (gd : X.A.guards = some []) (hu : X.A.units + 110 < cLine) : CallR X (.builtin "repr") (rcM X.K reprM) := by
  intro pins s σ H xs us Q I r h
  obtain ⟨F, ds, Q2, E, sm, b, h, k⟩ := h
  unfold reprM at h
  split at h
  · rename_i d
    obtain ⟨v, rfl, b1⟩ := b.one
    split at h
    · rename_i p e
      obtain ⟨h0, h1, h2, h3, q⟩ := h
      have rp := b1.rep sm
      obtain ⟨u, rfl, rv⟩ := Vals.one r
      have dp := rp.dp e
      have fin : Q (.str p.shown) H := k _ F H (.str p.shown, false) (Grow.refl sm) (Val.of (.str _)) q
      obtain ⟨as, rds⟩ := Dp.reads I p v u dp rv
      cases dp with
      | non =>
        cases rv
        exact P.repr_of_none ⟨.str _, H, I.tok _, ⟨_, rfl⟩, by simpa only [PyData.shown] using fin⟩
      | bl b =>
        cases rv
        exact P.repr_of_bool ⟨.str _, H, I.tok _, ⟨_, rfl⟩, by simpa only [PyData.shown] using fin⟩
      | int i =>
        obtain ⟨t, rfl⟩ := rv
        exact P.repr_of_int (by simpa [PyData.showable] using h1) ⟨.str _, H, I.tok _, ⟨_, rfl⟩, by simpa only [PyData.shown] using fin⟩
      | str x =>
        obtain ⟨t, rfl⟩ := rv
        exact P.repr_of_str ⟨.str _, H, I.tok _, ⟨_, rfl⟩, by simpa only [PyData.shown] using fin⟩ (by simpa only [PyData.shown] using h2)
      | lst hs ha =>
        cases rv
        exact repr_of_reads' rds h1 (PyData.noDict_hsm (PyData.hasDict_of_canLay _ h0)) gd (by omega) (fun _ _ e => e) (fun h' u tk hk => ⟨.str _, H, I.kept (t' := tk) hk, ⟨_, rfl⟩, fin⟩) h2
      | tup hs ha =>
        cases rv
        exact repr_of_reads' rds h1 (PyData.noDict_hsm (PyData.hasDict_of_canLay _ h0)) gd (by omega) (fun _ _ e => e) (fun h' u tk hk => ⟨.str _, H, I.kept (t' := tk) hk, ⟨_, rfl⟩, fin⟩) h2
    · exact h.elim
  · exact h.elim
end
end DL

namespace L2
open PySem
theorem PI.imp {X : Cx} {tg it : Expr} {t t' : TI} (h : PI X tg it t) (i : ∀ σ H Q, t' σ H Q → t σ H Q) : PI X tg it t' := ⟨fun pins s σ H Q I hw => h.run pins s σ H Q I (i σ H Q hw)⟩
end L2
namespace DL
open PySem L2

/-! ### what is walked, by its items -/
abbrev CI := Env → M (List D)
def ItOk (K : PySem.W.Frag) (F : Hp) (J : It) (ds : List D) : Prop := ∀ F1 H1, Same F F1 → Same F1 H1 →
  J.stop ds.length H1 ∧ ∀ i d, ds[i]? = some d → J.go i H1 ∧ ∀ x H2, J.yld i H1 x H2 → ∃ F2, Grow F1 H1 F2 H2 ∧ Rep K F2 x d
def rdI (K : PySem.W.Frag) (E : Xn → Prop) (c : CI) : TI := fun σ H R => ∃ B F0 F ρ Q, REnv K B F0 F H σ ρ ∧ c ρ Q E ∧ ∀ J H' F' ds, Grow F H F' H' → ItOk K F' J ds → Q ds → R J H'
theorem lt_of_at {α : Type} {ds : List α} {i : Nat} {d : α} (e : ds[i]? = some d) : i < ds.length := by
  rcases Nat.lt_or_ge i ds.length with h | h
  · exact h
  · rw [List.getElem?_eq_none h] at e; cases e
section
variable {K : PySem.W.Frag} {F : Hp} {J : It} {ds : List D} {G : Hp → Prop}
theorem ItOk.of_at {xs : List V} (w : Walk J ds.length G (YAt xs)) (g : ∀ H1, Same F H1 → G H1) (r : RepL K F xs ds) : ItOk K F J ds := by
  intro F1 H1 s1 s2
  have g1 := g H1 (s1.trans s2)
  refine ⟨w.stops _ g1, fun i d e => ⟨w.goes _ _ (lt_of_at e) g1, fun x H2 y => ?_⟩⟩
  obtain ⟨rfl, hx⟩ := w.yields _ _ _ _ (lt_of_at e) g1 y
  obtain ⟨v, h1, h2⟩ := r.get e
  rw [hx] at h1; cases h1
  exact ⟨F1, Grow.refl s2, h2.mono s1⟩
theorem ItOk.of_fn {f : Nat → V} (w : Walk J ds.length G (YFn f)) (g : ∀ H1, Same F H1 → G H1) (r : ∀ i d, ds[i]? = some d → ∀ F1, Same F F1 → Rep K F1 (f i) d) : ItOk K F J ds := by
  intro F1 H1 s1 s2
  have g1 := g H1 (s1.trans s2)
  refine ⟨w.stops _ g1, fun i d e => ⟨w.goes _ _ (lt_of_at e) g1, fun x H2 y => ?_⟩⟩
  obtain ⟨rfl, rfl⟩ := w.yields _ _ _ _ (lt_of_at e) g1 y
  exact ⟨F1, Grow.refl s2, r i d e F1 s1⟩
theorem ItOk.of_pair {xs ys : Nat → Option V} (w : Walk J ds.length G (YPair xs ys)) (g : ∀ H1, Same F H1 → G H1)
    (r : ∀ i d, ds[i]? = some d → ∃ a b, d = .tup [a, b] ∧ (∀ x, xs i = some x → Rep K F x a) ∧ ∀ x, ys i = some x → Rep K F x b) : ItOk K F J ds := by
  intro F1 H1 s1 s2
  have g1 := g H1 (s1.trans s2)
  refine ⟨w.stops _ g1, fun i d e => ⟨w.goes _ _ (lt_of_at e) g1, fun v H2 y => ?_⟩⟩
  obtain ⟨T, x, z, rfl, hT, rfl, e1, e2⟩ := w.yields _ _ _ _ (lt_of_at e) g1 y
  obtain ⟨a, b, rfl, ra, rb⟩ := r i d e
  have gr := Grow.new s2 hT (.tup [x, z])
  exact ⟨_, gr, .tup (SqT.of upd_same) (.cons (((ra x e1).mono s1).mono gr.f) (.cons (((rb z e2).mono s1).mono gr.f) .nil))⟩
end
theorem sqL_same {K : PySem.W.Frag} {H H' : Hp} {a : Addr} {xs : List V} (e : Same H H') (h : H a = some (.lst xs)) : SqL K H' a xs := SqL.of (e _ _ h)

def chars (x : Str) : List D := x.cps.toList.map fun c => .str ⟨#[c]⟩
def itemsM : D → M (List D)
  | .lst ds => ret ds
  | .tup ds => ret ds
  | .str x => ret (chars x)
  | .scr ns => ret (ns.map .int)
  | _ => fail
def iSeq (a : CB) : CI := fun ρ => bnd (a ρ) itemsM
section
variable {X : Cx} {E : Xn → Prop} {tg l a b c3 : Expr} {xa : CB} {cl : CL} {p pos tpos : Pos}
theorem ri_seq (ha : PE X l (rdF X.K E xa)) : PI X tg l (rdI X.K E (iSeq xa)) := by
  refine ⟨fun pins s σ H R I ⟨B, F0, F, ρ, Q, re, h, k⟩ => ?_⟩
  refine thn (ha.run pins s σ H (fun v H1 => ∃ F1 d, Grow F H F1 H1 ∧ Rep X.K F1 v d ∧ itemsM d Q E) I ⟨B, F0, F, ρ, _, re, h, fun v H1 F1 d g1 r1 q1 => ⟨F1, d, g1, r1, q1⟩⟩) ?_
  rintro v s1 ⟨x, H1, I1, r1, F1, d, g1, rp, q⟩
  cases rp with
  | lst h1 rl =>
    cases r1
    rename_i la lxs lds
    obtain ⟨its, rv, pp, hz⟩ := I1.list (SqL.of (g1.fh _ _ h1))
    refine wpAny_pyIter_list pp.isList (pi_one (tk := s1.toks) I1 _ (turn_list la _) ⟨_, Heap.get?_push_size _ rfl, rfl, rfl⟩ ?_)
    exact k _ H1 F1 _ g1 (ItOk.of_at (G := fun H => SqL X.K H la lxs) (rl.length ▸ walk_list) (fun H s => sqL_same s h1) rl) q
  | tup h1 rl =>
    cases r1
    rename_i la lxs lds
    obtain ⟨its, rv, pp, hz⟩ := I1.tuple (sqT_same g1.fh h1)
    refine wpAny_pyIter_tuple (show s1.heap.IsTuple la its.toArray from pp) (pi_one (tk := s1.toks) I1 _ (turn_tuple la _) ⟨_, Heap.get?_push_size _ rfl, rfl, rfl⟩ ?_)
    exact k _ H1 F1 _ g1 (ItOk.of_at (G := fun H => SqT X.K H la lxs) (rl.length ▸ walk_tup) (fun H s => sqT_same s h1) rl) q
  | @scr la ns h1 =>
    cases r1
    obtain ⟨its, rv, pp, hz⟩ := I1.list (h1.mono g1.fh).sql
    refine wpAny_pyIter_list pp.isList (pi_one (tk := s1.toks) I1 _ (turn_list la _) ⟨_, Heap.get?_push_size _ rfl, rfl, rfl⟩ ?_)
    have hl : (ns.map D.int).length = (ns.map V.int).length := by rw [List.length_map, List.length_map]
    exact k _ H1 F1 _ g1 (ItOk.of_at (G := fun H => SqL X.K H la (ns.map V.int)) (by rw [hl]; exact walk_list) (fun H s => (h1.mono s).sql) (repL_intsD _)) q
  | str z =>
    obtain ⟨t, rfl⟩ := r1
    have w : Walk (Its z) (chars z).length (fun _ => True) (YFn fun i => .str ⟨#[z.cps.toList.getD i 0]⟩) := by
      have hl : (chars z).length = z.cps.size := by simp [chars]
      rw [hl]
      refine walk_str.mono (fun _ h => h) fun i H x H' hi _ y => ?_
      obtain ⟨rfl, c, hc, rfl⟩ := y
      refine ⟨rfl, ?_⟩
      have hc2 : z.cps.toList[i]? = some c := by simpa using hc
      show _ = V.str ⟨#[z.cps.toList.getD i 0]⟩
      rw [List.getD_eq_getElem?_getD, hc2]
      rfl
    have io : ItOk X.K F1 (Its z) (chars z) := ItOk.of_fn w (fun _ _ => trivial) fun i d e F2 _ => by
      unfold chars at e
      rw [List.getElem?_map] at e
      rw [List.getD_eq_getElem?_getD]
      cases q2 : z.cps.toList[i]? with
      | none => rw [q2] at e; cases e
      | some c => rw [q2] at e; cases e; exact .str _
    cases hall : z.cps.all (· < 128)
    · exact wpAny_pyIter_wide hall (pi_one (tk := s1.toks) I1 _ (turn_str _ z t "str_iterator" (.inr rfl)) ⟨_, Heap.get?_push_size _ rfl, rfl, rfl⟩ (k _ H1 F1 _ g1 io q))
    · exact wpAny_pyIter_ascii hall (pi_one (tk := s1.toks) I1 _ (turn_str _ z t "str_ascii_iterator" (.inl rfl)) ⟨_, Heap.get?_push_size _ rfl, rfl, rfl⟩ (k _ H1 F1 _ g1 io q))
  | _ => exact (show False from q).elim

/-! ### ranges -/
def upto (lo : Int) (c : Int) (n : Nat) : List D := (List.range n).map fun i => .int (lo + (i : Nat) * c)
theorem upto_len (lo c : Int) (n : Nat) : (upto lo c n).length = n := by simp [upto]
theorem upto_at {lo c : Int} {n i : Nat} {d : D} (e : (upto lo c n)[i]? = some d) : d = .int (lo + (i : Nat) * c) := by
  unfold upto at e
  rw [List.getElem?_map] at e
  cases q : (List.range n)[i]? with
  | none => rw [q] at e; cases e
  | some j =>
    rw [q] at e
    cases e
    have hj := lt_of_at q
    rw [List.getElem?_eq_getElem hj] at q
    cases q
    simp
theorem itOk_rng {K : PySem.W.Frag} {F : Hp} (lo : Int) (n : Nat) : ItOk K F (Itr lo n) (upto lo 1 n) :=
  ItOk.of_fn (G := fun _ => True) (f := fun i => .int (lo + i)) (by rw [upto_len]; exact walk_range) (fun _ _ => trivial) fun i d e F1 _ => by rw [upto_at e, Int.mul_one]; exact .int _
theorem itOk_rngC {K : PySem.W.Frag} {F : Hp} (lo c : Int) (n : Nat) : ItOk K F (Itc lo c n) (upto lo c n) :=
  ItOk.of_fn (G := fun _ => True) (f := fun i => .int (lo + (i : Nat) * c)) (by rw [upto_len]; exact walk_rangeC) (fun _ _ => trivial) fun i d e F1 _ => by rw [upto_at e]; exact .int _
def rangeM : List D → M (List D)
  | [.int j] => fun Q _ => (-(2 ^ 62) ≤ j ∧ j < 2 ^ 62) ∧ Q (upto 0 1 j.toNat)
  | [.int i, .int j] => fun Q _ => (-(2 ^ 62) ≤ i ∧ i < 2 ^ 62 ∧ -(2 ^ 62) ≤ j ∧ j < 2 ^ 62) ∧ Q (upto i 1 (j - i).toNat)
  | [.int i, .int j, .int c] => fun Q _ => ∃ n, RgC i j c n ∧ Q (upto i c n)
  | _ => fail
def iRng (l : CL) : CI := fun ρ => bnd (l ρ) rangeM
theorem RepL.one {K : PySem.W.Frag} {F : Hp} {v : V} {ds : List D} (r : RepL K F [v] ds) : ∃ d, ds = [d] ∧ Rep K F v d := by
  cases r with | cons r t => cases t; exact ⟨_, rfl, r⟩
theorem RepL.two {K : PySem.W.Frag} {F : Hp} {v w : V} {ds : List D} (r : RepL K F [v, w] ds) : ∃ d e, ds = [d, e] ∧ Rep K F v d ∧ Rep K F w e := by
  cases r with | cons r t => cases t with | cons r2 t => cases t; exact ⟨_, _, rfl, r, r2⟩
theorem RepL.three {K : PySem.W.Frag} {F : Hp} {v w u : V} {ds : List D} (r : RepL K F [v, w, u] ds) : ∃ d e f, ds = [d, e, f] ∧ Rep K F v d ∧ Rep K F w e ∧ Rep K F u f := by
  cases r with | cons r t => cases t with | cons r2 t => cases t with | cons r3 t => cases t; exact ⟨_, _, _, rfl, r, r2, r3⟩
theorem len1 {α : Type} {l : List α} (h : l.length = 1) : ∃ a, l = [a] := by
  match l, h with
  | [a], _ => exact ⟨a, rfl⟩
theorem len2 {α : Type} {l : List α} (h : l.length = 2) : ∃ a b, l = [a, b] := by
  match l, h with
  | [a, b], _ => exact ⟨a, b, rfl⟩
theorem len3 {α : Type} {l : List α} (h : l.length = 3) : ∃ a b c, l = [a, b, c] := by
  match l, h with
  | [a, b, c], _ => exact ⟨a, b, c, rfl⟩
theorem ri_range1 (hg : Gl X "range") (hm : X.mg "range" = none) (ha : PA X [a] (rdL X.K E 1 cl)) (hs : starEach [a] X.env = [(false, eval a X.env)]) : PI X tg (.Call (.Name "range" p) [a] [] pos) (rdI X.K E (iRng cl)) :=
  (pi_range1 hg hm ha hs).imp fun σ H R ⟨B, F0, F, ρ, Q, re, h, k⟩ => ⟨B, F0, F, ρ, _, re, h, fun vs H1 F1 ds g1 r1 hn q => by
    obtain ⟨v, rfl⟩ := len1 hn
    obtain ⟨d, rfl, rd⟩ := r1.one
    cases rd with
    | int j => exact ⟨j, rfl, q.1.1, q.1.2, k _ H1 F1 _ g1 (itOk_rng 0 _) q.2⟩
    | _ => exact (show False from q).elim⟩
theorem ri_range2 (hg : Gl X "range") (hm : X.mg "range" = none) (ha : PA X [a, b] (rdL X.K E 2 cl)) (hs : starEach [a, b] X.env = [(false, eval a X.env), (false, eval b X.env)]) (hs2 : starEach [b] X.env = [(false, eval b X.env)]) :
    PI X tg (.Call (.Name "range" p) [a, b] [] pos) (rdI X.K E (iRng cl)) :=
  (pi_range2 hg hm ha hs hs2).imp fun σ H R ⟨B, F0, F, ρ, Q, re, h, k⟩ => ⟨B, F0, F, ρ, _, re, h, fun vs H1 F1 ds g1 r1 hn q => by
    obtain ⟨v, w, rfl⟩ := len2 hn
    obtain ⟨d, e, rfl, rd, re⟩ := r1.two
    cases rd with
    | int i => cases re with
      | int j => exact ⟨i, j, rfl, q.1, k _ H1 F1 _ g1 (itOk_rng i _) q.2⟩
      | _ => exact (show False from q).elim
    | _ => exact (show False from q).elim⟩
theorem ri_range3 (hg : Gl X "range") (hm : X.mg "range" = none) (ha : PA X [a, b, c3] (rdL X.K E 3 cl)) (hs : starEach [a, b, c3] X.env = (false, eval a X.env) :: starEach [b, c3] X.env) (hpl : (backTo pos (starEach [b, c3] X.env)).any (·.1) = false) :
    PI X tg (.Call (.Name "range" p) [a, b, c3] [] pos) (rdI X.K E (iRng cl)) :=
  (pi_range3 hg hm ha hs hpl).imp fun σ H R ⟨B, F0, F, ρ, Q, re, h, k⟩ => ⟨B, F0, F, ρ, _, re, h, fun vs H1 F1 ds g1 r1 hn q => by
    obtain ⟨v, w, u, rfl⟩ := len3 hn
    obtain ⟨d, e, f, rfl, rd, re, rf⟩ := r1.three
    cases rd with
    | int i => cases re with
      | int j => cases rf with
        | int c =>
          obtain ⟨n, hc, q⟩ := q
          exact ⟨i, j, c, n, rfl, hc, k _ H1 F1 _ g1 (itOk_rngC i c n) q⟩
        | _ => exact (show False from q).elim
      | _ => exact (show False from q).elim
    | _ => exact (show False from q).elim⟩

/-! ### pairs -/
def pairs : List D → List D → List D
  | a :: as, b :: bs => .tup [a, b] :: pairs as bs
  | _, _ => []
def enumD (ds : List D) : List D := pairs (upto 0 1 ds.length) ds
theorem pairs_len : ∀ as bs : List D, (pairs as bs).length = min as.length bs.length
  | a :: as, b :: bs => by simp [pairs, pairs_len as bs]
  | [], _ => by simp [pairs]
  | _ :: _, [] => by simp [pairs]
theorem pairs_at : ∀ {as bs : List D} {i : Nat} {d : D}, (pairs as bs)[i]? = some d → ∃ a b, d = .tup [a, b] ∧ as[i]? = some a ∧ bs[i]? = some b
  | a :: as, b :: bs, 0, d, e => by simp [pairs] at e; exact ⟨a, b, e.symm, rfl, rfl⟩
  | a :: as, b :: bs, i + 1, d, e => by
    obtain ⟨x, y, h⟩ := pairs_at (as := as) (bs := bs) (i := i) (d := d) (by simpa [pairs] using e)
    exact ⟨x, y, by simpa using h⟩
  | [], _, _, _, e => by simp [pairs] at e
  | _ :: _, [], _, _, e => by simp [pairs] at e
theorem enumD_len (ds : List D) : (enumD ds).length = ds.length := by simp [enumD, pairs_len, upto_len]
end
end DL

namespace DL
open PySem L2

/-! ### storing -/
section
variable {K : PySem.W.Frag} {B F0 F H : Hp} {σ : L2.St} {ρ : Env}
theorem set_at {α : Type} {l : List α} {i j : Nat} {a b : α} (e : (l.set i a)[j]? = some b) : (j = i ∧ i < l.length ∧ b = a) ∨ (j ≠ i ∧ l[j]? = some b) := by
  by_cases h : i = j
  · subst h
    by_cases hi : i < l.length
    · rw [List.getElem?_set_self hi] at e; cases e; exact .inl ⟨rfl, hi, rfl⟩
    · rw [List.getElem?_eq_none (by simpa using hi)] at e; cases e
  · rw [List.getElem?_set_ne h] at e; exact .inr ⟨fun q => h q.symm, e⟩
theorem REnv.put (r : REnv K B F0 F H σ ρ) (i : Nat) {o : Option V} {c : Cell} (hc : RepC K B F H o c) (hd : ∀ d z p, c = .ow d z → o = some (.ref p) → ∀ j e y, j ≠ i → ρ[j]? = some (.ow e y) → σ[j]? ≠ some (some (.ref p))) :
    REnv K B F0 F H (σ.set i o) (ρ.set i c) where
  bh := r.bh
  f0 := r.f0
  fh := r.fh
  fr := r.fr
  len := by rw [List.length_set, List.length_set, r.len]
  cell := fun j c' e => by
    rcases set_at e with ⟨rfl, hi, rfl⟩ | ⟨hj, e⟩
    · exact ⟨o, List.getElem?_set_self (by rw [r.len]; exact hi), hc⟩
    · rw [List.getElem?_set_ne (Ne.symm hj)]; exact r.cell j c' e
  dis := fun j k d e z y p hjk ej ek es => by
    rcases set_at ej with ⟨rfl, hi, hq⟩ | ⟨hj, ej2⟩
    · rcases set_at ek with ⟨rfl, _, _⟩ | ⟨hk, ek2⟩
      · exact absurd rfl hjk
      · rw [List.getElem?_set_self (by rw [r.len]; exact hi)] at es
        rw [List.getElem?_set_ne (Ne.symm hk)]
        exact hd d z p hq.symm (Option.some.inj es) k e y hk ek2
    · rw [List.getElem?_set_ne (Ne.symm hj)] at es
      rcases set_at ek with ⟨rfl, hi, hq⟩ | ⟨hk, ek2⟩
      · intro w
        rw [List.getElem?_set_self (by rw [r.len]; exact hi)] at w
        exact hd e y p hq.symm (Option.some.inj w) j d z hj ej2 es
      · rw [List.getElem?_set_ne (Ne.symm hk)]
        exact r.dis j k d e z y p hjk ej2 ek2 es
theorem REnv.put_sh (r : REnv K B F0 F H σ ρ) (i : Nat) {v : V} {d : D} (h : Rep K F v d) : REnv K B F0 F H (σ.set i (some v)) (ρ.set i (.sh d)) :=
  r.put i ⟨v, rfl, h⟩ fun d z p e => by cases e
theorem REnv.put_no (r : REnv K B F0 F H σ ρ) (i : Nat) {o : Option V} : REnv K B F0 F H (σ.set i o) (ρ.set i .no) :=
  r.put i trivial fun d z p e => by cases e
/-- less is known -/
theorem REnv.forget (r : REnv K B F0 F H σ ρ) (i : Nat) : REnv K B F0 F H σ (ρ.set i .no) := by
  have q := r.put_no i (o := (σ[i]?).getD none)
  have e : σ.set i ((σ[i]?).getD none) = σ := by
    apply List.ext_getElem?
    intro j
    by_cases h : i = j
    · subst h
      by_cases hi : i < σ.length
      · rw [List.getElem?_set_self hi, List.getElem?_eq_getElem hi]; rfl
      · rw [List.getElem?_eq_none (by simpa using hi), List.getElem?_eq_none (by simpa using hi)]
    · rw [List.getElem?_set_ne h]
  rw [e] at q
  exact q
def wipeE (ρ : Env) : List Nat → Env
  | [] => ρ
  | v :: vs => (wipeE ρ vs).set v .no
theorem REnv.wipe (r : REnv K B F0 F H σ ρ) : ∀ vs : List Nat, REnv K B F0 F H (L2.wipe σ vs) (wipeE ρ vs)
  | [] => r
  | v :: vs => (REnv.wipe r vs).put_no v
theorem wipe_in {σ : L2.St} {i : Nat} : ∀ {vs : List Nat}, i ∈ vs → i < σ.length → (L2.wipe σ vs)[i]? = some none
  | v :: vs, h, hi => by
    unfold L2.wipe
    by_cases e : v = i
    · subst e; rw [List.getElem?_set_self (by rw [wipe_length]; exact hi)]
    · rw [List.getElem?_set_ne e]
      exact wipe_in (by rcases List.mem_cons.mp h with q | q; exact absurd q.symm e; exact q) hi
theorem wipe_eq {σ σ' : L2.St} {vs : List Nat} (hl : σ'.length = σ.length) (h : ∀ i, i ∉ vs → σ'[i]? = σ[i]?) : L2.wipe σ' vs = L2.wipe σ vs := by
  apply List.ext_getElem?
  intro i
  by_cases hi : i ∈ vs
  · by_cases hl2 : i < σ.length
    · rw [wipe_in hi hl2, wipe_in hi (by rw [hl]; exact hl2)]
    · rw [List.getElem?_eq_none (by rw [wipe_length]; omega), List.getElem?_eq_none (by rw [wipe_length]; omega)]
  · rw [wipe_out hi, wipe_out hi, h i hi]
theorem wipe_idem {σ : L2.St} {vs : List Nat} : L2.wipe (L2.wipe σ vs) vs = L2.wipe σ vs :=
  wipe_eq (wipe_length _ _) fun i hi => wipe_out hi
end

/-! ### targets -/
abbrev CG := D → Env → M Env
def rdG (K : PySem.W.Frag) (E : Xn → Prop) (sl : List Nat) (g : CG) : TG := fun v σ H Q' => ∃ B F0 F ρ Q d, REnv K B F0 F H σ ρ ∧ Rep K F v d ∧ g d ρ Q E ∧
  ∀ σ' ρ', σ'.length = σ.length → (∀ i, i ∉ sl → σ'[i]? = σ[i]?) → REnv K B F0 F H σ' ρ' → Q ρ' → Q' σ' H
def rdGs (K : PySem.W.Frag) (E : Xn → Prop) (sl : List Nat) (g : List D → Env → M Env) : TGs := fun vs σ H Q' => ∃ B F0 F ρ Q ds, REnv K B F0 F H σ ρ ∧ RepL K F vs ds ∧ g ds ρ Q E ∧
  ∀ σ' ρ', σ'.length = σ.length → (∀ i, i ∉ sl → σ'[i]? = σ[i]?) → REnv K B F0 F H σ' ρ' → Q ρ' → Q' σ' H
def gNm (i : Nat) : CG := fun d ρ => ret (ρ.set i (.sh d))
def gsNil : List D → Env → M Env
  | [], ρ => ret ρ
  | _ :: _, _ => fail
def gsCons (g : CG) (gs : List D → Env → M Env) : List D → Env → M Env
  | d :: ds, ρ => bnd (g d ρ) (gs ds)
  | [], _ => fail
def gTp (n : Nat) (gs : List D → Env → M Env) : CG
  | .tup ds, ρ => fun Q E => ds.length = n ∧ gs ds ρ Q E
  | _, _ => fail
section
variable {X : Cx} {E : Xn → Prop} {pos : Pos} {e : Expr} {es : List Expr}
theorem PG.imp {X : Cx} {e : Expr} {t t' : TG} (h : PG X e t) (i : ∀ v σ H Q, t' v σ H Q → t v σ H Q) : PG X e t' := ⟨fun pins s σ H v u Q I r hw => h.run pins s σ H v u Q I r (i v σ H Q hw)⟩
theorem PGs.imp {X : Cx} {e : List Expr} {t t' : TGs} (h : PGs X e t) (i : ∀ v σ H Q, t' v σ H Q → t v σ H Q) : PGs X e t' := ⟨fun pins s σ H v u Q I r hw => h.run pins s σ H v u Q I r (i v σ H Q hw)⟩
theorem rg_name {i : Nat} {x : Str} (hN : X.N.Nodup) (hi : X.N[i]? = some x) (hx : Loc X.env.scope x) (hf : X.fn x = true ∨ X.env.scope.names.lookup x = some .local) : PG X (.Name x pos) (rdG X.K E [i] (gNm i)) :=
  PG.imp (pg_name hN hi hx hf) fun v σ H Q' ⟨B, F0, F, ρ, Q, d, re, r, q, k⟩ => by
    refine k _ _ (by rw [List.length_set]) (fun j hj => ?_) (re.put_sh i r) q
    rw [List.getElem?_set_ne (by simpa using Ne.symm (by simpa using hj))]
theorem rgs_nil : PGs X [] (rdGs X.K E [] gsNil) := PGs.imp pgs_nil fun v σ H Q' ⟨B, F0, F, ρ, Q, ds, re, r, q, k⟩ => by
  cases r with
  | nil => exact ⟨rfl, k σ ρ rfl (fun _ _ => rfl) re q⟩
  | cons _ _ => exact (show False from q).elim
theorem rgs_cons {sl sl2 : List Nat} {g : CG} {gs : List D → Env → M Env} (h1 : PG X e (rdG X.K E sl g)) (h2 : PGs X es (rdGs X.K E sl2 gs)) (hs : (assignEach (e :: es) X.env).map (·.2) = assign e X.env :: (assignEach es X.env).map (·.2)) :
    PGs X (e :: es) (rdGs X.K E (sl ++ sl2) (gsCons g gs)) := PGs.imp (pgs_cons h1 h2 hs) fun v σ H Q' ⟨B, F0, F, ρ, Q, ds, re, r, q, k⟩ => by
  cases r with
  | nil => exact (show False from q).elim
  | cons r t =>
    refine ⟨_, _, rfl, B, F0, F, ρ, _, _, re, r, q, fun σ' ρ' l1 k1 re1 q1 => ⟨B, F0, F, ρ', _, _, re1, t, q1, fun σ2 ρ2 l2 k2 re2 q2 => k σ2 ρ2 (l2.trans l1) (fun i hi => ?_) re2 q2⟩⟩
    rw [List.mem_append, not_or] at hi
    rw [k2 i hi.2, k1 i hi.1]
theorem rg_tup {k n : Nat} {sl : List Nat} {gs : List D → Env → M Env} (hc : X.calm = true) (h : PGs X es (rdGs X.K E sl gs)) (hn : (assignEach es X.env).length = n) (hst : (assignEach es X.env).findIdx? (·.1) = none) :
    PG X (.Tuple es k pos) (rdG X.K E sl (gTp n gs)) := PG.imp (pg_tup hc h hn hst) fun v σ H Q' ⟨B, F0, F, ρ, Q, d, re, r, q, k⟩ => by
  cases r with
  | tup h1 r1 => exact ⟨_, _, rfl, sqT_same re.fh h1, by rw [r1.length]; exact q.1, B, F0, F, ρ, Q, _, re, r1, q.2, k⟩
  | _ => exact (show False from q).elim
end

/-! ### list comprehensions -/
def tYesD : CT := fun _ => ret true
def lcM (g : CG) (t : CT) (e : CB) (ρ : Env) : List D → M (List D)
  | [] => ret []
  | d :: ds => bnd (g d ρ) fun ρ' => bnd (t ρ') fun b => if b = true then bnd (e ρ') fun x => bnd (lcM g t e ρ ds) fun r => ret (x :: r) else lcM g t e ρ ds
def cLc (vs : List Nat) (it : CI) (g : CG) (t : CT) (e : CB) : CV := fun ρ => bnd (it ρ) fun ds Q E => ds.length ≤ sizeLine ∧ lcM g t e (wipeE ρ vs) ds (fun r => Q (.lst r, true)) E
section
variable {X : Cx} {E : Xn → Prop} {pos : Pos} {elt tg iter : Expr} {ifs : List Expr}
theorem rts_nil : PTs X [] (rdT X.K E tYesD) := ⟨fun pins s σ H Q' I ⟨B, F0, F, ρ, Q, re, h, k⟩ => (pts_nil (X := X)).run pins s σ H Q' I (k true H F re.gr h)⟩
theorem lc_imp {K : PySem.W.Frag} {ci : CI} {g : CG} {t : CT} {xe : CB} {vs : List Nat} {sl : List Nat} {σ : L2.St} {H : Hp} {Q' : VK} (hsl : ∀ i ∈ sl, i ∈ vs) (h : rdV K E (cLc vs ci g t xe) σ H Q') :
    tLc (rdI K E ci) (rdG K E sl g) (rdT K E t) (rdF K E xe) vs σ H Q' := by
  obtain ⟨B, F0, F, ρ, Q, re, h, k⟩ := h
  refine ⟨B, F0, F, ρ, _, re, h, fun J H1 F1 ds g1 io q => ?_⟩
  obtain ⟨hsz, q⟩ := q
  intro Dn hD
  refine ⟨fun i m H2 => m = ds.length - i ∧ i ≤ ds.length ∧ ∃ F2 acc out, Grow F1 H1 F2 H2 ∧ F2 Dn = none ∧ H2 Dn = some (.lst acc) ∧ RepL K F2 acc out ∧ out.length ≤ i ∧ lcM g t xe (wipeE ρ vs) (ds.drop i) (fun r => Q (.lst (out ++ r), true)) E,
    ⟨ds.length, by simp, Nat.zero_le _, F1, [], [], Grow.own g1.fh hD _, g1.fh.free hD, upd_same, .nil, Nat.zero_le _, q⟩, ?_⟩
  rintro i m H2 ⟨rfl, hi, F2, acc, out, g2, fD, hDn, ra, ho, q2⟩
  obtain ⟨i1, i2⟩ := io F2 H2 g2.f g2.fh
  by_cases hlt : i < ds.length
  · have e : ds[i]? = some ds[i] := List.getElem?_eq_getElem hlt
    obtain ⟨go, yl⟩ := i2 i _ e
    rw [List.drop_eq_getElem_cons hlt] at q2
    refine .inr ⟨go, fun H' => ∃ F2 acc out, Grow F1 H1 F2 H' ∧ F2 Dn = none ∧ H' Dn = some (.lst acc) ∧ RepL K F2 acc out ∧ out.length ≤ i + 1 ∧ lcM g t xe (wipeE ρ vs) (ds.drop (i + 1)) (fun r => Q (.lst (out ++ r), true)) E,
      fun H' ⟨F3, a3, o3, w⟩ => ⟨ds.length - (i + 1), by omega, rfl, hlt, F3, a3, o3, w⟩, fun x H3 y => ?_⟩
    obtain ⟨F3, g3, r3⟩ := yl x H3 y
    have st : ∀ {F' H' : Hp}, Grow F2 H2 F' H' → F' Dn = none ∧ H' Dn = some (.lst acc) := fun {F' H'} gg => by
      refine ⟨?_, gg.h _ _ hDn⟩
      cases z : F' Dn with
      | none => rfl
      | some u =>
        rcases gg.nw Dn u z with w | w
        · rw [fD] at w; cases w
        · rw [hDn] at w; cases w
    have re3 := (re.grow ((g1.trans g2).trans g3)).wipe vs
    refine ⟨B, F0, F3, _, _, _, re3, r3, q2, fun σ4 ρ4 l4 k4 re4 q4 => ⟨?_, B, F0, F3, ρ4, _, re4, q4, fun b H5 F5 g5 q5 => ?_⟩⟩
    · rw [← wipe_idem (σ := σ)]
      exact wipe_eq l4 fun j hj => k4 j fun z => hj (hsl j z)
    · have g35 := g3.trans g5
      cases b with
      | false =>
        show ∃ F2 acc out, _
        exact ⟨F5, acc, out, g2.trans g35, (st g35).1, (st g35).2, ra.mono g35.f, Nat.le_succ_of_le ho, q5⟩
      | true =>
        show rdF K E xe σ4 H5 _
        refine ⟨B, F0, F5, ρ4, _, re4.grow g5, (show bnd (xe ρ4) _ _ E from q5), fun v H6 F6 d g6 r6 q6 => ?_⟩
        have g36 := g35.trans g6
        obtain ⟨s1, s2⟩ := st g36
        refine ⟨acc, s2, by rw [ra.length]; omega, F6, _, out ++ [d], ?_, s1, upd_same, (ra.mono g36.f).append (.cons r6 .nil), by rw [List.length_append, List.length_singleton]; omega, ?_⟩
        · have gg := g2.trans g36
          refine ⟨fun b u z => ?_, gg.f, fun b u z => ?_, gg.nw⟩
          · rw [upd_ne (ne_of_none z hD)]; exact gg.h b u z
          · rw [upd_ne (ne_of_none z s1)]; exact gg.fh b u z
        · have e2 : (fun r => Q (.lst ((out ++ [d]) ++ r), true)) = fun r => Q (.lst (out ++ (d :: r)), true) := by
            funext r; rw [List.append_assoc]; rfl
          rw [e2]
          exact q6
  · have e : i = ds.length := by omega
    subst e
    rw [List.drop_length] at q2
    have q3 : Q (.lst (out ++ []), true) := q2
    rw [List.append_nil] at q3
    exact .inl ⟨i1, k _ H2 F2 (.lst out, true) (g1.trans g2) (Val.own (g1.h.free hD) fD ⟨acc, hDn, ra⟩) q3⟩
theorem re_lc {ci : CI} {g : CG} {t : CT} {xe : CB} {sl : List Nat} {scope : Scope} {own : List (Str × Nat)} (hsl : ∀ i ∈ sl, i ∈ own.map (·.2)) (hc : X.calm = true) (hN : X.N.Nodup) (hi : PI X tg iter (rdI X.K E ci)) (ok : BlkOk X.N X.env.scope scope own)
    (hg : ∀ (s : Shared) (H : Hp) (C : Addr) (cl : List (Str × Addr)) (fp : List Addr), PG (X.blk s H scope (compEnvC scope cl C X.env) fp) tg (rdG X.K E sl g)) (ht : ∀ (s : Shared) (H : Hp) (C : Addr) (cl : List (Str × Addr)) (fp : List Addr), PTs (X.blk s H scope (compEnvC scope cl C X.env) fp) ifs (rdT X.K E t))
    (he : ∀ (s : Shared) (H : Hp) (C : Addr) (cl : List (Str × Addr)) (fp : List Addr), PE (X.blk s H scope (compEnvC scope cl C X.env) fp) elt (rdF X.K E xe)) (hs : ∀ x, foldedSetIterable iter X.env x = pure x) :
    PE X (.ListComp elt [⟨tg, iter, ifs, 0⟩] scope pos) (rdV X.K E (cLc (own.map (·.2)) ci g t xe)) :=
  (pe_lc hc hN hi ok hg ht he hs).imp fun σ H Q' h => lc_imp hsl h
end
end DL

namespace L2
open PySem
theorem PS.imp {X : Cx} {e : Stmt} {t t' : TS} (h : PS X e t) (i : ∀ D σ H, t' D σ H → t D σ H) : PS X e t' := ⟨fun pins s σ H D I hw => h.run pins s σ H D I (i D σ H hw)⟩
theorem PSs.imp {X : Cx} {e : List Stmt} {t t' : TS} (h : PSs X e t) (i : ∀ D σ H, t' D σ H → t D σ H) : PSs X e t' := ⟨fun pins s σ H D I hw => h.run pins s σ H D I (i D σ H hw)⟩
end L2
namespace DL
open PySem L2

/-! ### statements -/
structure EndD where
  nx : Env → Prop
  rt : D → Env → Prop
  bk : Env → Prop := fun _ => False
  ct : Env → Prop := fun _ => False
  ro : D → Env → Prop := fun _ _ => False
abbrev CS := Env → EndD → (Xn → Prop) → Prop
structure Lk (K : PySem.W.Frag) (B F0 : Hp) (W : EndD) (Dn : Ends) : Prop where
  nx : ∀ σ H F ρ, REnv K B F0 F H σ ρ → W.nx ρ → Dn.nx σ H
  rt : ∀ v σ H F ρ d, REnv K B F0 F H σ ρ → Rep K F v d → W.rt d ρ → Dn.rt v H
  bk : ∀ σ H F ρ, REnv K B F0 F H σ ρ → W.bk ρ → Dn.bk σ H
  ct : ∀ σ H F ρ, REnv K B F0 F H σ ρ → W.ct ρ → Dn.ct σ H
  ro : ∀ p σ H F ρ d, REnv K B F0 F H σ ρ → B p = none → F p = none → Own K F H p d → W.ro d ρ → Dn.rt (.ref p) H
def rdS (K : PySem.W.Frag) (E : Xn → Prop) (c : CS) : TS := fun Dn σ H => ∃ B F0 F ρ W, REnv K B F0 F H σ ρ ∧ c ρ W E ∧ Lk K B F0 W Dn
section
variable {K : PySem.W.Frag} {B F0 F H F' H' : Hp} {σ : L2.St} {ρ : Env}
theorem REnv.gr0 (r : REnv K B F0 F H σ ρ) : Grow F0 B F H := ⟨r.bh, r.f0, r.fh, r.fr⟩
/-- what is known now taken for the start -/
theorem REnv.base (r : REnv K B F0 F H σ ρ) : REnv K B F F H σ ρ := ⟨r.bh, Same.refl F, r.fh, fun _ _ e => .inl e, r.len, r.cell, r.dis⟩
theorem REnv.unbase {F1 : Hp} (f : Same F0 F1) (fr : ∀ a o, F1 a = some o → F0 a = some o ∨ B a = none) (r : REnv K B F1 F H σ ρ) : REnv K B F0 F H σ ρ :=
  ⟨r.bh, f.trans r.f0, r.fh, fun a o e => (r.fr a o e).elim (fun q => fr a o q) .inr, r.len, r.cell, r.dis⟩
theorem Lk.base {F1 : Hp} {W : EndD} {Dn : Ends} (f : Same F0 F1) (fr : ∀ a o, F1 a = some o → F0 a = some o ∨ B a = none) (l : Lk K B F0 W Dn) : Lk K B F1 W Dn where
  nx := fun σ H F ρ r q => l.nx σ H F ρ (r.unbase f fr) q
  bk := fun σ H F ρ r q => l.bk σ H F ρ (r.unbase f fr) q
  ct := fun σ H F ρ r q => l.ct σ H F ρ (r.unbase f fr) q
  rt := fun v σ H F ρ d re r q => l.rt v σ H F ρ d (re.unbase f fr) r q
  ro := fun p σ H F ρ d re h1 h2 h3 q => l.ro p σ H F ρ d (re.unbase f fr) h1 h2 h3 q
def cel (k : Bool) (r : D × Bool) : Cell := if (k && r.2) = true then .ow r.1 none else .sh r.1
/-- a value to be kept in a slot -/
theorem Val.keep {v : V} {r : D × Bool} (k : Bool) (g : Grow F H F' H') (h : Val K F' H' H v r) : ∃ F2, Grow F H F2 H' ∧
    ∀ {σ : L2.St} {ρ : Env} {B F0 : Hp} (i : Nat), REnv K B F0 F H σ ρ → REnv K B F0 F2 H' (σ.set i (some v)) (ρ.set i (cel k r)) := by
  by_cases hk : (k && r.2) = true
  · have hr : r.2 = true := by rw [Bool.and_eq_true] at hk; exact hk.2
    unfold Val at h
    rw [if_pos hr] at h
    obtain ⟨p, rfl, h0, hf, o⟩ := h
    refine ⟨F', g, fun {σ ρ B F0} i re => ?_⟩
    unfold cel
    rw [if_pos hk]
    refine (re.grow g).put i ⟨p, rfl, re.bh.free h0, hf, o, fun q z => by cases z⟩ fun d z p' e1 e2 j e y hj ej es => ?_
    cases e1
    cases e2
    obtain ⟨v, h1, q, rfl, _, _, h2, _⟩ := re.cell j _ ej
    rw [es] at h1
    cases h1
    obtain ⟨u, hu⟩ := h2.there
    rw [h0] at hu; cases hu
  · obtain ⟨F2, g2, r2⟩ := h.frz g
    refine ⟨F2, g2, fun {σ ρ B F0} i re => ?_⟩
    unfold cel
    rw [if_neg hk]
    exact (re.grow g2).put_sh i r2
theorem Own.upd_ne {p q : Addr} {o : HO} {d : D} (h : Own K F H q d) (n : q ≠ p) : Own K F (upd H p o) q d := by
  cases d with
  | lst ds => obtain ⟨vs, h, r⟩ := h; exact ⟨vs, by rw [L2.upd_ne n]; exact h, r⟩
  | dct kvs => obtain ⟨ks, h, r⟩ := h; exact ⟨ks, by rw [L2.upd_ne n]; exact h, r⟩
  | _ => exact h.elim
theorem Own.mo {q : Addr} {d : D} (h : Own K F H q d) (f : Same F F') : Own K F' H q d := by
  cases d with
  | lst ds => obtain ⟨vs, h, r⟩ := h; exact ⟨vs, h, r.mono f⟩
  | dct kvs => obtain ⟨ks, h, r⟩ := h; exact ⟨ks, h, r.mono f⟩
  | _ => exact h.elim
/-- one's own thing in slot i is changed -/
theorem REnv.chg (re : REnv K B F0 F H σ ρ) {i : Nat} {d0 d : D} {z0 : Option Addr} {p : Addr} {o : HO} (e : ρ[i]? = some (.ow d0 z0)) (es : σ[i]? = some (some (.ref p))) (ow : ∀ H', H' p = some o → Own K F H' p d) : REnv K B F0 F (upd H p o) σ (ρ.set i (.ow d z0)) := by
  obtain ⟨v, h1, p', rfl, hB, hF, hO, hz⟩ := re.cell i _ e
  rw [es] at h1
  cases h1
  refine ⟨fun b u z => ?_, re.f0, fun b u z => ?_, re.fr, by rw [List.length_set]; exact re.len, fun j c ej => ?_, fun j k d1 d2 z1 z2 q hjk ej ek ejs => ?_⟩
  · rw [upd_ne (ne_of_none z hB)]; exact re.bh b u z
  · rw [upd_ne (ne_of_none z hF)]; exact re.fh b u z
  · rcases set_at ej with ⟨rfl, hi, rfl⟩ | ⟨hj, ej2⟩
    · exact ⟨_, es, p, rfl, hB, hF, ow _ upd_same, hz⟩
    · obtain ⟨w, w1, w2⟩ := re.cell j c ej2
      refine ⟨w, w1, ?_⟩
      cases c with
      | no => trivial
      | sh d => exact w2
      | ow d z =>
        obtain ⟨q, rfl, q1, q2, q3, q4⟩ := w2
        refine ⟨q, rfl, q1, q2, q3.upd_ne (fun w => ?_), q4⟩
        subst w
        exact re.dis j i d d0 _ _ q hj ej2 e w1 es
  · rcases set_at ej with ⟨rfl, hi, hq⟩ | ⟨hj, ej2⟩
    · rcases set_at ek with ⟨rfl, _, _⟩ | ⟨hk, ek2⟩
      · exact absurd rfl hjk
      · exact re.dis _ k _ _ _ _ q hjk e ek2 ejs
    · rcases set_at ek with ⟨rfl, _, _⟩ | ⟨hk, ek2⟩
      · exact re.dis j _ _ _ _ _ q hjk ej2 e ejs
      · exact re.dis j k _ _ _ _ q hjk ej2 ek2 ejs
/-- one's own thing is frozen -/
theorem REnv.frz (re : REnv K B F0 F H σ ρ) {i : Nat} {d : D} {z0 : Option Addr} (e : ρ[i]? = some (.ow d z0)) : ∃ F2, REnv K B F0 F2 H σ (ρ.set i (.sh d)) := by
  obtain ⟨v, h1, p, rfl, hB, hF, hO, _⟩ := re.cell i _ e
  obtain ⟨u, hu, rp⟩ := hO.frz hF
  have fs : Same F (upd F p u) := fun b w z => by rw [upd_ne (ne_of_none z hF)]; exact z
  refine ⟨upd F p u, re.bh, re.f0.trans fs, fun b w z => ?_, fun b w z => ?_, by rw [List.length_set]; exact re.len, fun j c ej => ?_, fun j k d1 d2 z1 z2 q hjk ej ek ejs => ?_⟩
  · by_cases hb : b = p
    · subst hb; rw [upd_same] at z; rw [← z]; exact hu
    · rw [upd_ne hb] at z; exact re.fh b w z
  · by_cases hb : b = p
    · subst hb; exact .inr hB
    · rw [upd_ne hb] at z; exact re.fr b w z
  · rcases set_at ej with ⟨rfl, hi, rfl⟩ | ⟨hj, ej2⟩
    · exact ⟨_, h1, _, rfl, rp⟩
    · obtain ⟨w, w1, w2⟩ := re.cell j c ej2
      refine ⟨w, w1, ?_⟩
      cases c with
      | no => trivial
      | sh d => obtain ⟨x, rfl, r⟩ := w2; exact ⟨x, rfl, r.mono fs⟩
      | ow d' z' =>
        obtain ⟨q, rfl, q1, q2, q3, q4⟩ := w2
        have hq : q ≠ p := fun z => by
          subst z
          exact re.dis j i d' d _ _ q hj ej2 e w1 h1
        exact ⟨q, rfl, q1, by rw [upd_ne hq]; exact q2, q3.mo fs, q4⟩
  · rcases set_at ej with ⟨rfl, hi, hq⟩ | ⟨hj, ej2⟩
    · cases hq
    · rcases set_at ek with ⟨rfl, _, hq⟩ | ⟨hk, ek2⟩
      · cases hq
      · exact re.dis j k _ _ _ _ q hjk ej2 ek2 ejs
end
end DL

namespace DL
open PySem L2

def sNil : CS := fun ρ W _ => W.nx ρ
def sSeq (a b : CS) : CS := fun ρ W E => a ρ { W with nx := fun ρ' => b ρ' W E } E
def sDrop (c : CV) : CS := fun ρ W E => c ρ (fun _ => W.nx ρ) E
def sSet (i : Nat) (k : Bool) (c : CV) : CS := fun ρ W E => c ρ (fun r => W.nx (ρ.set i (cel k r))) E
def sAsg (g : CG) (c : CB) : CS := fun ρ W E => c ρ (fun d => g d ρ W.nx E) E
def sPar (i j : Nat) (ki kj : Bool) (a b : CV) : CS := fun ρ W E => a ρ (fun r => b ρ (fun q => W.nx ((ρ.set i (cel ki r)).set j (cel kj q))) E) E
def sRet (c : CB) : CS := fun ρ W E => c ρ (fun d => W.rt d ρ) E
def sRetO (i : Nat) : CS := fun ρ W _ => match ρ[i]? with
  | some (.ow d _) => W.ro d ρ
  | _ => False
def sRetF (c : CV) : CS := fun ρ W E => c ρ (fun r => r.2 = true ∧ W.ro r.1 ρ) E
def sRetN : CS := fun ρ W _ => W.rt .non ρ
def sIf (t : CT) (a b : CS) : CS := fun ρ W E => t ρ (fun k => if k = true then a ρ W E else b ρ W E) E
def sBrk : CS := fun ρ W _ => W.bk ρ
def sCnt : CS := fun ρ W _ => W.ct ρ
def sNo : CS := fun _ _ _ => False
def forM (g : CG) (body : CS) : List D → CS
  | [], ρ, W, _ => W.nx ρ
  | d :: ds, ρ, W, E => g d ρ (fun ρ' => body ρ' { nx := fun ρ2 => forM g body ds ρ2 W E, rt := W.rt, bk := W.nx, ct := fun ρ2 => forM g body ds ρ2 W E, ro := W.ro } E) E
def sFor (it : CI) (g : CG) (body : CS) : CS := fun ρ W E => it ρ (fun ds => forM g body ds ρ W E) E
def sWhile (t : CT) (body : CS) : CS := fun ρ W E => ∃ P : Nat → Env → Prop, (∃ n, P n ρ) ∧ ∀ n ρ, P n ρ →
  t ρ (fun b => if b = true then body ρ { nx := fun ρ' => ∃ m, m < n ∧ P m ρ', rt := W.rt, bk := W.nx, ct := fun ρ' => ∃ m, m < n ∧ P m ρ', ro := W.ro } E else W.nx ρ) E
def sFrz (i : Nat) (c : CS) : CS := fun ρ W E => match ρ[i]? with
  | some (.ow d _) => c (ρ.set i (.sh d)) W E
  | _ => c ρ W E
/-- an expression that may change what is one's own -/
abbrev CU := Env → (D → Env → Prop) → (Xn → Prop) → Prop
def rdU (K : PySem.W.Frag) (E : Xn → Prop) (c : CU) : TE := fun σ H Q' => ∃ B F0 F ρ Q, REnv K B F0 F H σ ρ ∧ c ρ Q E ∧ ∀ v H' F' d ρ', REnv K B F0 F' H' σ ρ' → Rep K F' v d → Q d ρ' → Q' v H'
def uOf (c : CB) : CU := fun ρ Q E => c ρ (fun d => Q d ρ) E
def uPop (j : Nat) : CU := fun ρ Q _ => match ρ[j]? with
  | some (.ow (.lst xs) z) => match xs[xs.length - 1]? with
    | some d => Q d (ρ.set j (.ow (.lst xs.dropLast) z))
    | none => False
  | _ => False
def isOwL (ρ : Env) (j : Nat) : Prop := match ρ[j]? with
  | some (.ow (.lst _) _) => True
  | _ => False
def uPopAt (j : Nat) (c : CB) : CU := fun ρ Q E => isOwL ρ j ∧ c ρ (fun y => match y, ρ[j]? with
  | .int i, some (.ow (.lst xs) z) => (-(2 ^ 63) ≤ i ∧ i < 2 ^ 63) ∧ match seqIndex? i xs.length with
    | some k => match xs[k]? with
      | some d => Q d (ρ.set j (.ow (.lst (xs.eraseIdx k)) z))
      | none => False
    | none => False
  | _, _ => False) E
def sSetU (i : Nat) (u : CU) : CS := fun ρ W E => u ρ (fun d ρ' => W.nx (ρ'.set i (.sh d))) E
def sApp (i : Nat) (u : CU) : CS := fun ρ W E => isOwL ρ i ∧ u ρ (fun d ρ' => match ρ'[i]? with
  | some (.ow (.lst xs) z) => xs.length < sizeLine ∧ W.nx (ρ'.set i (.ow (.lst (xs ++ [d])) z))
  | _ => False) E
def sPut (i : Nat) (c : CB) (ix : CB) : CS := fun ρ W E => isOwL ρ i ∧ c ρ (fun d => ix ρ (fun y => match y, ρ[i]? with
  | .int k, some (.ow (.lst xs) z) => match ixN xs.length k with
    | some j => W.nx (ρ.set i (.ow (.lst (xs.set j d)) z))
    | none => False
  | _, _ => False) E) E
theorem isOwL_iff {ρ : Env} {j : Nat} (h : isOwL ρ j) : ∃ xs z, ρ[j]? = some (.ow (.lst xs) z) := by
  unfold isOwL at h
  split at h
  · exact ⟨_, _, by assumption⟩
  · exact h.elim

section
variable {X : Cx} {E : Xn → Prop} {pos pos' : Pos} {st : Stmt} {rest : List Stmt} {e e2 iter : Expr} {a b : CS} {c c2 : CV} {xe xi : CB} {t : CT} {g : CG}
theorem REnv.owL {K : PySem.W.Frag} {B F0 F H : Hp} {σ : L2.St} {ρ : Env} {i : Nat} {xs : List D} {z : Option Addr} (re : REnv K B F0 F H σ ρ) (e : ρ[i]? = some (.ow (.lst xs) z)) : ∃ p vs, σ[i]? = some (some (.ref p)) ∧ H p = some (.lst vs) ∧ RepL K F vs xs := by
  obtain ⟨v, h1, p, rfl, _, _, ⟨vs, h2, r⟩, _⟩ := re.cell i _ e
  exact ⟨p, vs, h1, h2, r⟩
theorem rss_nil : PSs X [] (rdS X.K E sNil) := PSs.imp pss_nil fun Dn σ H ⟨B, F0, F, ρ, W, re, h, l⟩ => l.nx σ H F ρ re h
theorem rss_one (h : PS X st (rdS X.K E a)) : PSs X [st] (rdS X.K E a) := pss_one h
theorem rss_cons (h1 : PS X st (rdS X.K E a)) (h2 : PSs X rest (rdS X.K E b)) : PSs X (st :: rest) (rdS X.K E (sSeq a b)) := PSs.imp (pss_cons h1 h2) fun Dn σ H ⟨B, F0, F, ρ, W, re, h, l⟩ =>
  ⟨B, F0, F, ρ, _, re, h, ⟨fun σ' H' F' ρ' r q => ⟨B, F0, F', ρ', W, r, q, l⟩, l.rt, l.bk, l.ct, l.ro⟩⟩
theorem rs_pass : PS X (.Pass pos) (rdS X.K E sNil) := PS.imp ps_pass fun Dn σ H ⟨B, F0, F, ρ, W, re, h, l⟩ => l.nx σ H F ρ re h
theorem rs_brk : PS X (.Break pos) (rdS X.K E sBrk) := PS.imp ps_break fun Dn σ H ⟨B, F0, F, ρ, W, re, h, l⟩ => l.bk σ H F ρ re h
theorem rs_cnt : PS X (.Continue pos) (rdS X.K E sCnt) := PS.imp ps_continue fun Dn σ H ⟨B, F0, F, ρ, W, re, h, l⟩ => l.ct σ H F ρ re h
theorem rs_no : PS X st (rdS X.K E sNo) := PS.imp ps_never fun Dn σ H ⟨B, F0, F, ρ, W, re, h, l⟩ => h
theorem rs_drop (he : PE X e (rdV X.K E c)) (hs : swapsWith e none pos.line X.env = pure false) : PS X (.Expr e pos) (rdS X.K E (sDrop c)) := PS.imp (ps_expr he hs) fun Dn σ H ⟨B, F0, F, ρ, W, re, h, l⟩ =>
  ⟨B, F0, F, ρ, _, re, h, fun v H' F' r gr _ q => l.nx σ H' F' ρ (re.grow gr) q⟩
theorem set_imp {K : PySem.W.Frag} {i : Nat} {k : Bool} {Dn : Ends} {σ : L2.St} {H : Hp} (hw : rdS K E (sSet i k c) Dn σ H) : rdV K E c σ H fun x H1 => gName i x σ H1 Dn.nx := by
  obtain ⟨B, F0, F, ρ, W, re, h, l⟩ := hw
  refine ⟨B, F0, F, ρ, _, re, h, fun v H' F' r gr vr q => ?_⟩
  obtain ⟨F2, g2, kp⟩ := vr.keep k gr
  exact l.nx _ _ _ _ (kp i re) q
theorem rs_set {i : Nat} {x : Str} (k : Bool) (hN : X.N.Nodup) (hi : X.N[i]? = some x) (hx : Loc X.env.scope x) (hf : X.fn x = true ∨ X.env.scope.names.lookup x = some .local) (he : PE X e (rdV X.K E c)) (hs : swapsWith e (some (.Name x pos')) pos.line X.env = pure false) :
    PS X (.Assign [.Name x pos'] e pos) (rdS X.K E (sSet i k c)) := PS.imp (ps_set hN hi hx he hs hf) fun Dn σ H h => set_imp h
theorem rs_setU {i : Nat} {x : Str} {u : CU} (hN : X.N.Nodup) (hi : X.N[i]? = some x) (hx : Loc X.env.scope x) (hf : X.fn x = true ∨ X.env.scope.names.lookup x = some .local) (he : PE X e (rdU X.K E u)) (hs : swapsWith e (some (.Name x pos')) pos.line X.env = pure false) :
    PS X (.Assign [.Name x pos'] e pos) (rdS X.K E (sSetU i u)) := PS.imp (ps_set hN hi hx he hs hf) fun Dn σ H ⟨B, F0, F, ρ, W, re, h, l⟩ =>
  ⟨B, F0, F, ρ, _, re, h, fun v H' F' d ρ' re' r q => l.nx _ _ _ _ (re'.put_sh i r) q⟩
theorem rs_asg {sl : List Nat} {tg : Expr} (he : PE X e (rdF X.K E xe)) (hg : PG X tg (rdG X.K E sl g)) (hs : swapsWithSole [tg] e pos.line X.env = pure false) (hw : swappedStores [tg] e X.env = pure none) (h1 : (assignEach [tg] X.env).map (·.2) = [assign tg X.env]) :
    PS X (.Assign [tg] e pos) (rdS X.K E (sAsg g xe)) := PS.imp (ps_asg he hg hs hw h1) fun Dn σ H ⟨B, F0, F, ρ, W, re, h, l⟩ =>
  ⟨B, F0, F, ρ, _, re, h, fun v H' F' d gr r q => ⟨B, F0, F', ρ, _, d, re.grow gr, r, q, fun σ' ρ' _ _ re' q' => l.nx σ' H' F' ρ' re' q'⟩⟩
theorem rs_par {i j : Nat} {x y : Str} {px py pt : Pos} {kt k2 pt2} (ki kj : Bool) (hc : X.calm = true) (hN : X.N.Nodup) (hi : X.N[i]? = some x) (hj : X.N[j]? = some y) (hij : i ≠ j)
    (hx : X.env.scope.names.lookup x = some .local) (hy : X.env.scope.names.lookup y = some .local) (ha : PE X e (rdV X.K E c)) (hb : PE X e2 (rdV X.K E c2)) (hst : starEach [e, e2] X.env = (false, eval e X.env) :: starEach [e2] X.env) (hst2 : starEach [e2] X.env = (false, eval e2 X.env) :: starEach [] X.env)
    (hw : swappedStores [.Tuple [.Name x px, .Name y py] kt pt] (.Tuple [e, e2] k2 pt2) X.env = pure (some [x, y])) (hs : swapsWithSole [.Tuple [.Name x px, .Name y py] kt pt] (.Tuple [e, e2] k2 pt2) pos.line X.env = pure false) :
    PS X (.Assign [.Tuple [.Name x px, .Name y py] kt pt] (.Tuple [e, e2] k2 pt2) pos) (rdS X.K E (sPar i j ki kj c c2)) :=
  PS.imp (ps_par hc hN hi hj hij hx hy (pa_cons ha (pa_cons hb pa_nil hst2) hst) hw hs) fun Dn σ H ⟨B, F0, F, ρ, W, re, h, l⟩ => by
    refine ⟨B, F0, F, ρ, _, re, h, fun v H1 F1 r g1 v1 q1 => ?_⟩
    obtain ⟨F2, g2, kp⟩ := v1.keep ki g1
    refine ⟨B, F0, F2, ρ, _, re.grow g2, q1, fun w H3 F3 r3 g3 v3 q3 => ⟨v, w, rfl, ?_⟩⟩
    obtain ⟨F4, g4, kp2⟩ := v3.keep kj g3
    exact l.nx _ _ _ _ (kp2 j (kp i re)) q3
theorem rs_ret (he : PE X e (rdF X.K E xe)) : PS X (.Return (some e) pos) (rdS X.K E (sRet xe)) := PS.imp (ps_ret he) fun Dn σ H ⟨B, F0, F, ρ, W, re, h, l⟩ =>
  ⟨B, F0, F, ρ, _, re, h, fun v H' F' d gr r q => l.rt v _ H' F' ρ d (re.grow gr) r q⟩
/-- what is one's own is given out as it is -/
theorem rs_retO {i : Nat} {x : Str} (hN : X.N[i]? = some x) (hv : Vis X.env.scope x) (hd : (x == ("__debug__" : Str)) = false) (hcd : (x == ("__classdict__" : Str)) = false) : PS X (.Return (some (.Name x pos')) pos) (rdS X.K E (sRetO i)) :=
  PS.imp (ps_ret (pe_var hN hv hd hcd)) fun Dn σ H ⟨B, F0, F, ρ, W, re, h, l⟩ => by
    unfold sRetO at h
    split at h
    · rename_i d z e
      obtain ⟨v, h1, p, rfl, hB, hF, hO, _⟩ := re.cell i _ e
      exact ⟨_, h1, l.ro p σ H F ρ d re hB hF hO h⟩
    · exact h.elim
theorem rs_retF (he : PE X e (rdV X.K E c)) : PS X (.Return (some e) pos) (rdS X.K E (sRetF c)) := PS.imp (ps_ret he) fun Dn σ H ⟨B, F0, F, ρ, W, re, h, l⟩ =>
  ⟨B, F0, F, ρ, _, re, h, fun v H' F' r gr vr q => by
    obtain ⟨hr, q⟩ := q
    unfold Val at vr
    rw [if_pos hr] at vr
    obtain ⟨p, rfl, h0, hf, o⟩ := vr
    exact l.ro p σ H' F' ρ r.1 (re.grow gr) (re.bh.free h0) hf o q⟩
theorem rs_retN : PS X (.Return none pos) (rdS X.K E sRetN) := PS.imp ps_retN fun Dn σ H ⟨B, F0, F, ρ, W, re, h, l⟩ => l.rt .non _ H F ρ .non re .non h
theorem rs_if {ss ss2 : List Stmt} (ht : PT X e (rdT X.K E t)) (ha : PSs X ss (rdS X.K E a)) (hb : PSs X ss2 (rdS X.K E b)) : PS X (.If e ss ss2 pos) (rdS X.K E (sIf t a b)) := PS.imp (ps_if ht ha hb) fun Dn σ H ⟨B, F0, F, ρ, W, re, h, l⟩ =>
  ⟨B, F0, F, ρ, _, re, h, fun k H1 F1 g1 q => by
    cases k with
    | true => exact ⟨B, F0, F1, ρ, W, re.grow g1, q, l⟩
    | false => exact ⟨B, F0, F1, ρ, W, re.grow g1, q, l⟩⟩
theorem rs_while {ss : List Stmt} (hp : PassesOwn (model X.prog X.w) X.A X.env X.xe) (ht : PT X e (rdT X.K E t)) (hb : PSs X ss (rdS X.K E b)) : PS X (.While e ss [] pos) (rdS X.K E (sWhile t b)) :=
  PS.imp (ps_while hp ht hb) fun Dn σ H ⟨B, F0, F, ρ, W, re, h, l⟩ => by
    obtain ⟨P, ⟨n, h0⟩, hs⟩ := h
    refine ⟨fun m σ H => ∃ F ρ, REnv X.K B F0 F H σ ρ ∧ P m ρ, ⟨n, F, ρ, re, h0⟩, ?_⟩
    rintro m σ1 H1 ⟨F1, ρ1, re1, p1⟩
    refine ⟨B, F0, F1, ρ1, _, re1, hs m ρ1 p1, fun k H2 F2 g2 q => ?_⟩
    cases k with
    | false => exact l.nx _ _ _ _ (re1.grow g2) q
    | true =>
      refine ⟨fun σ' H' => ∃ m', m' < m ∧ ∃ F ρ, REnv X.K B F0 F H' σ' ρ ∧ P m' ρ, fun σ' H' z => z, B, F0, F2, ρ1, _, re1.grow g2, q, ?_⟩
      exact ⟨fun σ' H' F' ρ' r ⟨m', hm, p⟩ => ⟨m', hm, F', ρ', r, p⟩, l.rt, fun σ' H' F' ρ' r p => l.nx _ _ _ _ r p, fun σ' H' F' ρ' r ⟨m', hm, p⟩ => ⟨m', hm, F', ρ', r, p⟩, l.ro⟩
theorem rs_for {ss : List Stmt} {tg : Expr} {sl : List Nat} {ci : CI} (hp : PassesOwn (model X.prog X.w) X.A X.env X.xe) (hc : X.calm = true) (hi : PI X tg iter (rdI X.K E ci)) (hg : PG X tg (rdG X.K E sl g)) (hb : PSs X ss (rdS X.K E b)) (hs : ∀ x, foldedSetIterable iter X.env x = pure x) :
    PS X (.For tg iter ss [] pos) (rdS X.K E (sFor ci g b)) := PS.imp (ps_for hp hc hi hg hb hs) fun Dn σ H ⟨B, F0, F, ρ, W, re, h, l⟩ => by
  refine ⟨B, F0, F, ρ, _, re, h, fun J H1 F1 ds g1 io q => ?_⟩
  have re1 := re.grow g1
  have f01 := re1.f0
  have fr1 := re1.fr
  have l1 : Lk X.K B F1 W Dn := l.base f01 fr1
  refine ⟨fun i m σ H => m = ds.length - i ∧ i ≤ ds.length ∧ ∃ F2 ρ2, REnv X.K B F1 F2 H σ ρ2 ∧ forM g b (ds.drop i) ρ2 W E, ⟨ds.length, by simp, Nat.zero_le _, F1, ρ, re1.base, q⟩, ?_⟩
  rintro i m σ2 H2 ⟨rfl, hi, F2, ρ2, re2, q2⟩
  obtain ⟨i1, i2⟩ := io F2 H2 re2.f0 re2.fh
  by_cases hlt : i < ds.length
  · obtain ⟨go, yl⟩ := i2 i _ (List.getElem?_eq_getElem hlt)
    rw [List.drop_eq_getElem_cons hlt] at q2
    refine .inr ⟨go, fun σ' H' => ∃ F2 ρ2, REnv X.K B F1 F2 H' σ' ρ2 ∧ forM g b (ds.drop (i + 1)) ρ2 W E, fun σ' H' z => ⟨ds.length - (i + 1), by omega, rfl, hlt, z⟩, fun x H3 y => ?_⟩
    obtain ⟨F3, g3, r3⟩ := yl x H3 y
    refine ⟨B, F1, F3, ρ2, _, _, re2.grow g3, r3, q2, fun σ4 ρ4 _ _ re4 q4 => ⟨B, F1, F3, ρ4, _, re4, q4, ?_⟩⟩
    exact ⟨fun σ' H' F' ρ' r p => ⟨F', ρ', r, p⟩, l1.rt, fun σ' H' F' ρ' r p => l1.nx _ _ _ _ r p, fun σ' H' F' ρ' r p => ⟨F', ρ', r, p⟩, l1.ro⟩
  · have e : i = ds.length := by omega
    subst e
    rw [List.drop_length] at q2
    exact .inl ⟨i1, l1.nx _ _ _ _ re2 q2⟩
theorem rs_frz (i : Nat) (h : PS X st (rdS X.K E a)) : PS X st (rdS X.K E (sFrz i a)) := h.imp fun Dn σ H ⟨B, F0, F, ρ, W, re, h, l⟩ => by
  unfold sFrz at h
  split at h
  · rename_i d z e
    obtain ⟨F2, re2⟩ := re.frz e
    exact ⟨B, F0, F2, _, W, re2, h, l⟩
  · exact ⟨B, F0, F, ρ, W, re, h, l⟩

/-! ### changing one's own lists -/
theorem ru_of (he : PE X e (rdF X.K E xe)) : PE X e (rdU X.K E (uOf xe)) := he.imp fun σ H Q' ⟨B, F0, F, ρ, Q, re, h, k⟩ =>
  ⟨B, F0, F, ρ, _, re, h, fun v H' F' d gr r q => k v H' F' d ρ (re.grow gr) r q⟩
theorem re_own {i : Nat} {x : Str} (hN : X.N[i]? = some x) (hv : Vis X.env.scope x) (hd : (x == ("__debug__" : Str)) = false) (hcd : (x == ("__classdict__" : Str)) = false) : PE X (.Name x pos) (tVar i) := pe_var hN hv hd hcd
theorem ru_pop {j : Nat} {x : Str} {apos cpos : Pos} (hN : X.N[j]? = some x) (hv : Vis X.env.scope x) (hd : (x == ("__debug__" : Str)) = false) (hcd : (x == ("__classdict__" : Str)) = false)
    (hbase : attributeBase (.Name x pos) "pop" X.env (eval (.Name x pos) X.env) = eval (.Name x pos) X.env) (hline : (apos.endLine == cpos.line) = true) : PE X (.Call (.Attribute (.Name x pos) "pop" apos) [] [] cpos) (rdU X.K E (uPop j)) :=
  (pe_bm0 F.plainAttrs_list F.slot_list_pop rfl mt_pop (pe_var hN hv hd hcd) hbase hline).imp fun σ H Q' ⟨B, F0, F, ρ, Q, re, h, k⟩ => by
    unfold uPop at h
    split at h
    · rename_i xs z e
      split at h
      · rename_i d ed
        obtain ⟨p, vs, es, hp, r⟩ := re.owL e
        obtain ⟨v, ev, rv⟩ := r.get ed
        refine ⟨_, es, .inl ⟨rfl, _, SqL.of hp⟩, p, vs, v, rfl, rfl, hp, by rw [r.length]; exact ev, ?_⟩
        exact k v _ F d _ (re.chg e es fun H' h' => Own.mkL h' r.dropLast) rv h
      · exact h.elim
    · exact h.elim
theorem ru_popAt {j : Nat} {x : Str} {apos cpos : Pos} (hN : X.N[j]? = some x) (hv : Vis X.env.scope x) (hd : (x == ("__debug__" : Str)) = false) (hcd : (x == ("__classdict__" : Str)) = false) (he : PE X e (rdF X.K E xe))
    (hbase : attributeBase (.Name x pos) "pop" X.env (eval (.Name x pos) X.env) = eval (.Name x pos) X.env)
    (hfew : ((backTo cpos (starEach [e] X.env)).all (fun x => !x.1) && (backToKw cpos (keywordEach [] X.env)).all (fun x => x.1.isSome) && decide ([e].length + ([] : List Keyword).length + (if ([] : List Keyword).isEmpty then 0 else 1) < 30)) = true)
    (hline : (apos.endLine == cpos.line) = true) (hs : starEach [e] X.env = (false, eval e X.env) :: starEach [] X.env) (hpl : (backTo cpos (starEach [] X.env)).any (·.1) = false) :
    PE X (.Call (.Attribute (.Name x pos) "pop" apos) [e] [] cpos) (rdU X.K E (uPopAt j xe)) :=
  (pe_bm F.plainAttrs_list F.slot_list_pop rfl mt_popAt (pe_var hN hv hd hcd) (pa_cons he pa_nil hs) hbase hfew hline hs hpl).imp fun σ H Q' ⟨B, F0, F, ρ, Q, re, h, k⟩ => by
    obtain ⟨h0, h⟩ := h
    obtain ⟨xs, z0, ex⟩ := isOwL_iff h0
    obtain ⟨p, vs, es, hp, r⟩ := re.owL ex
    refine ⟨_, es, .inl ⟨rfl, _, SqL.of hp⟩, B, F0, F, ρ, _, re, h, fun w H' F' d gr rd q => ?_⟩
    have re' := re.grow gr
    split at q
    · rename_i i xs' z e2
      rw [ex] at e2
      cases e2
      cases rd
      obtain ⟨hb, q⟩ := q
      split at q
      · rename_i n en
        split at q
        · rename_i d ed
          have r' := r.mono gr.f
          obtain ⟨v, ev, rv⟩ := r'.get ed
          have hp' := gr.h _ _ hp
          refine ⟨p, vs, i, n, v, rfl, rfl, hp', hb.1, hb.2, by rw [r.length]; exact en, ev, ?_⟩
          exact k v _ F' d _ (re'.chg ex es fun H2 h2 => Own.mkL h2 (r'.eraseIdx n)) rv q
        · exact q.elim
      · exact q.elim
    · exact q.elim
theorem rs_app {i : Nat} {x : Str} {u : CU} {apos cpos : Pos} (hN : X.N[i]? = some x) (hv : Vis X.env.scope x) (hd : (x == ("__debug__" : Str)) = false) (hcd : (x == ("__classdict__" : Str)) = false) (he : PE X e (rdU X.K E u))
    (hbase : attributeBase (.Name x pos) "append" X.env (eval (.Name x pos) X.env) = eval (.Name x pos) X.env)
    (hfew : ((backTo cpos (starEach [e] X.env)).all (fun x => !x.1) && (backToKw cpos (keywordEach [] X.env)).all (fun x => x.1.isSome) && decide ([e].length + ([] : List Keyword).length + (if ([] : List Keyword).isEmpty then 0 else 1) < 30)) = true)
    (hline : (apos.endLine == cpos.line) = true) (hs : starEach [e] X.env = (false, eval e X.env) :: starEach [] X.env) (hpl : (backTo cpos (starEach [] X.env)).any (·.1) = false)
    (hsw : swapsWith (.Call (.Attribute (.Name x pos) "append" apos) [e] [] cpos) none pos'.line X.env = pure false) :
    PS X (.Expr (.Call (.Attribute (.Name x pos) "append" apos) [e] [] cpos) pos') (rdS X.K E (sApp i u)) :=
  PS.imp (ps_expr (pe_bm F.plainAttrs_list F.slot_list_append rfl mt_append (pe_var hN hv hd hcd) (pa_cons he pa_nil hs) hbase hfew hline hs hpl) hsw) fun Dn σ H ⟨B, F0, F, ρ, W, re, h, l⟩ => by
    obtain ⟨h0, h⟩ := h
    obtain ⟨xs, z0, ex⟩ := isOwL_iff h0
    obtain ⟨p, vs, es, hp, r⟩ := re.owL ex
    refine ⟨_, es, .inl ⟨rfl, _, SqL.of hp⟩, B, F0, F, ρ, _, re, h, fun w H' F' d ρ' re' rd q => ?_⟩
    split at q
    · rename_i xs' z e2
      obtain ⟨p2, vs2, es2, hp2, r2⟩ := re'.owL e2
      rw [es] at es2
      cases es2
      refine ⟨p, vs2, w, rfl, rfl, hp2, by rw [r2.length]; exact q.1, ?_⟩
      exact l.nx _ _ _ _ (re'.chg e2 es fun H2 h2 => Own.mkL h2 (r2.append (.cons rd .nil))) q.2
    · exact q.elim
theorem rs_put {i : Nat} {x : Str} (hN : X.N[i]? = some x) (hv : Vis X.env.scope x) (hd : (x == ("__debug__" : Str)) = false) (hcd : (x == ("__classdict__" : Str)) = false) (he : PE X e (rdF X.K E xe)) (hi : PE X e2 (rdF X.K E xi)) {p1 p2 : Pos}
    (ha : ∀ v, assign (.Subscript (.Name x p1) e2 p2) X.env v = (do
      let ov ← holding [v] (eval (.Name x p1) X.env)
      let iv ← holding [v, ov] (eval e2 X.env)
      standAt p2
      holding [v, ov, iv] (setItem ov iv v)
      release [v, ov, iv] []))
    (hs : swapsWithSole [.Subscript (.Name x p1) e2 p2] e pos.line X.env = pure false) (hw : swappedStores [.Subscript (.Name x p1) e2 p2] e X.env = pure none) (h1 : (assignEach [.Subscript (.Name x p1) e2 p2] X.env).map (·.2) = [assign (.Subscript (.Name x p1) e2 p2) X.env]) :
    PS X (.Assign [.Subscript (.Name x p1) e2 p2] e pos) (rdS X.K E (sPut i xe xi)) :=
  PS.imp (ps_asg he (pg_sub (pe_var hN hv hd hcd) hi set_list ha) hs hw h1) fun Dn σ H ⟨B, F0, F, ρ, W, re, h, l⟩ => by
    obtain ⟨h0, h⟩ := h
    obtain ⟨xs0, z0, ex⟩ := isOwL_iff h0
    obtain ⟨p, vs0, ez, hp0, r0⟩ := re.owL ex
    refine ⟨B, F0, F, ρ, _, re, h, fun w H1 F1 d g1 rd q => ⟨_, ez, B, F0, F1, ρ, _, re.grow g1, q, fun y H2 F2 d2 g2 r2 q2 => ?_⟩⟩
    have re2 := (re.grow g1).grow g2
    split at q2
    · rename_i k xs z e2
      cases r2
      obtain ⟨p', vs, es, hp, r⟩ := re2.owL e2
      rw [ez] at es
      cases es
      split at q2
      · rename_i j ej
        refine ⟨p, vs, k, j, rfl, rfl, hp, by rw [r.length]; exact ej, ?_⟩
        exact l.nx _ _ _ _ (re2.chg e2 ez fun H3 h3 => Own.mkL h3 (r.set (rd.mono g2.f) j)) q2
      · exact q2.elim
    · exact q2.elim
end
end DL

namespace DL
open PySem L2

/-! ### the reader of a text: what it computes -/
inductive GV where
  | fn (n : Nat) (m : List D → M D) (kw : List (Nat × List Str × List Nat))
  | fo (n : Nat) (m : List D → M D) (kw : List (Nat × List Str × List Nat))
  | cv (d : D)
  | bi (id : String) (m : List D → M (D × Bool))
  | ty (T : String) (m : List D → M (D × Bool))
  | sp
structure Sg where
  N : List Str
  sc : Scope
  st : List Str
  gl : List (Str × GV)
  own : List Nat
  ro : Bool := false
def GvOk (X : Cx) (x : Str) : GV → Prop
  | .fn n m kw => ∃ (k : Nat) (f : Addr) (fd : FuncData) (ps : List Str), FnG X.prog X.w X.K X.mg X.base CX0 k f fd ps (SpM X.K ps.length m) ∧ Room k X.A ∧ X.mg x = some (.ref f) ∧ PySem.W.keepIn X.K (.ref f) = true ∧ Binds X.K fd ps [] ∧ ps.length = n ∧
      ∀ z ∈ kw, KwOk X.K fd ps z.1 z.2.1 z.2.2
  | .fo n m kw => ∃ (k : Nat) (f : Addr) (fd : FuncData) (ps : List Str), FnG X.prog X.w X.K X.mg X.base CX0 k f fd ps (SpF true X.K ps.length m) ∧ Room k X.A ∧ X.mg x = some (.ref f) ∧ PySem.W.keepIn X.K (.ref f) = true ∧ Binds X.K fd ps [] ∧ ps.length = n ∧
      ∀ z ∈ kw, KwOk X.K fd ps z.1 z.2.1 z.2.2
  | .cv d => ∃ (v : V) (u : Value), X.mg x = some u ∧ RelV v u ∧ ∀ F, Rep X.K F v d
  | .bi id m => X.mg x = none ∧ bootBuiltins x = some (.builtin id) ∧ x ≠ "__name__" ∧ ∀ Y : Cx, Y.calm = true → Y.A.guards = some [] → Y.A.units + 110 < cLine → CallR Y (.builtin id) (rcM Y.K m)
  | .ty T m => X.mg x = none ∧ bootBuiltins x = some (.type T) ∧ x ≠ "__name__" ∧ ∀ Y : Cx, Y.calm = true → Y.A.guards = some [] → Y.A.units + 110 < cLine → CallR Y (.type T) (rcM Y.K m)
  | .sp => X.mg x = none
structure SgOk (X : Cx) (g : Sg) : Prop where
  N : X.N = g.N
  nd : g.N.Nodup
  sc : X.env.scope = g.sc
  kind : g.sc.kind = .function
  calm : X.calm = true
  gd : X.A.guards = some []
  un : X.A.units + 110 < cLine
  st : ∀ x ∈ g.st, Loc g.sc x ∧ (X.fn x = true ∨ g.sc.names.lookup x = some .local)
  gl : ∀ x v, g.gl.lookup x = some v → GvOk X x v
structure Rec where
  v : Sg → Expr → Option CV
  t : Sg → Expr → Option CT
  i : Sg → Expr → Expr → Option CI
  s : Sg → Stmt → Option CS
structure RecOk (r : Rec) : Prop where
  v : ∀ {X : Cx} {g : Sg} {E : Xn → Prop} {e : Expr} {c : CV}, SgOk X g → r.v g e = some c → PE X e (rdV X.K E c)
  t : ∀ {X : Cx} {g : Sg} {E : Xn → Prop} {e : Expr} {c : CT}, SgOk X g → r.t g e = some c → PT X e (rdT X.K E c)
  i : ∀ {X : Cx} {g : Sg} {E : Xn → Prop} {tg e : Expr} {c : CI}, SgOk X g → r.i g tg e = some c → PI X tg e (rdI X.K E c)
  s : ∀ {X : Cx} {g : Sg} {E : Xn → Prop} {st : Stmt} {c : CS}, SgOk X g → PassesOwn (model X.prog X.w) X.A X.env X.xe → r.s g st = some c → PS X st (rdS X.K E c)

/-! ### plain forms -/
def plainE : Expr → Bool
  | .Starred .. => false
  | .Slice .. => false
  | .Set .. => false
  | _ => true
theorem plain_star {e : Expr} {es : List Expr} {env : PySem.Env} (h : plainE e = true) : starEach (e :: es) env = (false, eval e env) :: starEach es env := by
  cases e <;> first | rfl | cases h
theorem plain_ix {e : Expr} (h : plainE e = true) : PlainIx e := by
  intro o i
  cases e <;> first | rfl | cases h
theorem plain_set {e : Expr} (h : plainE e = true) {env : PySem.Env} (x : Value) : foldedSetIterable e env x = pure x := by
  cases e <;> first | rfl | cases h
theorem plain_asg {e : Expr} {es : List Expr} {env : PySem.Env} (h : plainE e = true) : assignEach (e :: es) env = (false, assign e env) :: assignEach es env := by
  cases e <;> first | rfl | cases h
theorem plains_pl {env : PySem.Env} {pos : Pos} : ∀ {es : List Expr}, es.all plainE = true → (backTo pos (starEach es env)).any (·.1) = false
  | [], _ => rfl
  | e :: es, h => by
    rw [List.all_cons, Bool.and_eq_true] at h
    rw [plain_star h.1]
    unfold backTo
    rw [List.map_cons, List.any_cons]
    have := plains_pl (env := env) (pos := pos) h.2
    unfold backTo at this
    rw [this]
    rfl
/-- no test of its own -/
def noTest : Expr → Bool
  | .UnaryOp .Not _ _ => false
  | .BoolOp .. => false
  | .IfExp .. => false
  | .Compare .. => false
  | _ => true
theorem noTest_is {e : Expr} {env : PySem.Env} (h : noTest e = true) (whole : Sem Value) : isTrue e env whole = (do let v ← whole; standAt e.pos; holding [v] (truthy v)) := by
  cases e with
  | UnaryOp op a p => cases op <;> first | rfl | cases h
  | _ => first | rfl | cases h
def noComp : Expr → Bool
  | .ListComp .. => false
  | .SetComp .. => false
  | .DictComp .. => false
  | _ => true
theorem noComp_sw {e : Expr} {env : PySem.Env} (h : noComp e = true) (t : Option Expr) (l : Nat) : swapsWith e t l env = pure false := by
  unfold swapsWith
  cases e <;> first | rfl | cases h

/-! ### slots -/
def visB (sc : Scope) (x : Str) : Bool := match sc.names.lookup x with
  | some .local => true
  | some .cell => true
  | some .free => true
  | _ => false
theorem visB_is {sc : Scope} {x : Str} (h : visB sc x = true) : Vis sc x := by
  unfold visB at h
  unfold Vis
  cases q : sc.names.lookup x with
  | none => rw [q] at h; cases h
  | some k => rw [q] at h; cases k <;> first | exact .inl rfl | exact .inr (.inl rfl) | exact .inr (.inr rfl) | cases h
def oddName (x : Str) : Bool := x == ("__debug__" : Str) || x == ("__classdict__" : Str)
def slotOf (g : Sg) (x : Str) : Option Nat := if (visB g.sc x && !oddName x) = true then g.N.idxOf? x else none
theorem slotOf_is {g : Sg} {x : Str} {i : Nat} (h : slotOf g x = some i) : g.N[i]? = some x ∧ Vis g.sc x ∧ (x == ("__debug__" : Str)) = false ∧ (x == ("__classdict__" : Str)) = false := by
  unfold slotOf at h
  split at h
  · rename_i hv
    rw [Bool.and_eq_true] at hv
    obtain ⟨h1, h2⟩ := hv
    have h2 : oddName x = false := by simpa using h2
    unfold oddName at h2
    rw [Bool.or_eq_false_iff] at h2
    refine ⟨?_, visB_is h1, h2.1, h2.2⟩
    rw [List.idxOf?, List.findIdx?_eq_some_iff_getElem] at h
    obtain ⟨hi, hx, _⟩ := h
    rw [List.getElem?_eq_getElem hi]
    exact congrArg some (by simpa using hx)
  · cases h
def globB (g : Sg) (x : Str) : Bool := (match g.sc.names.lookup x with | some .globalImplicit => true | _ => false) && !oddName x
theorem globB_is {X : Cx} {g : Sg} (ok : SgOk X g) {x : Str} (h : globB g x = true) : Gl X x ∧ (x == ("__debug__" : Str)) = false := by
  unfold globB at h
  rw [Bool.and_eq_true] at h
  obtain ⟨h1, h2⟩ := h
  have h2 : oddName x = false := by simpa using h2
  unfold oddName at h2
  rw [Bool.or_eq_false_iff] at h2
  refine ⟨?_, h2.1⟩
  show X.env.scope.names.lookup x = some .globalImplicit
  rw [ok.sc]
  split at h1
  · assumption
  · cases h1
def bOf (r : Rec) (g : Sg) : Expr → Option CB
  | .Name x p => match slotOf g x with
    | some i => some (bVar i)
    | none => (r.v g (.Name x p)).map frz
  | e => (r.v g e).map frz
def fOf (r : Rec) (g : Sg) (e : Expr) : Option CB := (r.v g e).map frz
section
variable {r : Rec} {X : Cx} {g : Sg} {E : Xn → Prop} {e : Expr}
theorem map_some {α β : Type} {o : Option α} {f : α → β} {b : β} (h : o.map f = some b) : ∃ a, o = some a ∧ f a = b := by
  cases o with
  | none => cases h
  | some a => exact ⟨a, rfl, Option.some.inj h⟩
theorem bind_some {α β : Type} {o : Option α} {f : α → Option β} {b : β} (h : (o >>= f) = some b) : ∃ a, o = some a ∧ f a = some b := by
  cases o with
  | none => cases h
  | some a => exact ⟨a, rfl, h⟩
theorem fOf_ok (R : RecOk r) (ok : SgOk X g) {c : CB} (h : fOf r g e = some c) : PE X e (rdF X.K E c) := by
  obtain ⟨a, h1, rfl⟩ := map_some h
  exact PE.toF (R.v ok h1)
theorem bOf_ok (R : RecOk r) (ok : SgOk X g) {c : CB} (h : bOf r g e = some c) : PE X e (rdB X.K E c) := by
  have gen : ∀ {e}, (r.v g e).map frz = some c → PE X e (rdB X.K E c) := fun h => by
    obtain ⟨a, h1, rfl⟩ := map_some h
    exact PE.toB (R.v ok h1)
  unfold bOf at h
  split at h
  · split at h
    · rename_i i hi
      cases h
      obtain ⟨h1, h2, h3, h4⟩ := slotOf_is hi
      exact re_bvar (by rw [ok.N]; exact h1) (by rw [ok.sc]; exact h2) h3 h4
    · exact gen h
  · exact gen h
end
/-! ### lists -/
def lOf (r : Rec) (g : Sg) : List Expr → Option CL
  | [] => some cNil
  | e :: es => if plainE e = true then match fOf r g e, lOf r g es with
    | some a, some l => some (cCons a l)
    | _, _ => none else none
def mOf (r : Rec) (g : Sg) : List Expr → Option CL
  | [] => some cNil
  | e :: es => if plainE e = true then match bOf r g e, mOf r g es with
    | some a, some l => some (cCons a l)
    | _, _ => none else none
def kOf (r : Rec) (g : Sg) : List Keyword → Option CL
  | [] => some cNil
  | ⟨_, e, _⟩ :: es => match fOf r g e, kOf r g es with
    | some a, some l => some (cCons a l)
    | _, _ => none
section
variable {r : Rec} {X : Cx} {g : Sg} {E : Xn → Prop}
theorem lOf_ok (R : RecOk r) (ok : SgOk X g) : ∀ {es : List Expr} {c : CL}, lOf r g es = some c → PA X es (rdL X.K E es.length c) ∧ es.all plainE = true
  | [], c, h => by simp only [lOf, Option.some.injEq] at h; subst h; exact ⟨rl_nil, rfl⟩
  | e :: es, c, h => by
    simp only [lOf] at h
    split at h
    · rename_i hp
      split at h
      · rename_i a l ha hl
        cases h
        obtain ⟨h1, h2⟩ := lOf_ok R ok hl
        exact ⟨rl_cons (fOf_ok R ok ha) h1 (plain_star hp), by rw [List.all_cons, hp, h2]; rfl⟩
      · cases h
    · cases h
theorem mOf_ok (R : RecOk r) (ok : SgOk X g) : ∀ {es : List Expr} {c : CL}, mOf r g es = some c → PA X es (rdM X.K E c) ∧ es.all plainE = true
  | [], c, h => by simp only [mOf, Option.some.injEq] at h; subst h; exact ⟨rm_nil, rfl⟩
  | e :: es, c, h => by
    simp only [mOf] at h
    split at h
    · rename_i hp
      split at h
      · rename_i a l ha hl
        cases h
        obtain ⟨h1, h2⟩ := mOf_ok R ok hl
        exact ⟨rm_cons (bOf_ok R ok ha) h1 (plain_star hp), by rw [List.all_cons, hp, h2]; rfl⟩
      · cases h
    · cases h
theorem kOf_ok (R : RecOk r) (ok : SgOk X g) : ∀ {es : List Keyword} {c : CL}, kOf r g es = some c → PK X es (rdL X.K E es.length c)
  | [], c, h => by simp only [kOf, Option.some.injEq] at h; subst h; exact rk_nil
  | ⟨n, e, p⟩ :: es, c, h => by
    simp only [kOf] at h
    split at h
    · rename_i a l ha hl
      cases h
      exact rk_cons (fOf_ok R ok ha) (kOf_ok R ok hl)
    · cases h
end
/-! ### targets -/
def gOf (g : Sg) : Nat → Expr → Option (List Nat × CG)
  | 0, _ => none
  | n + 1, e => match e with
   | .Name x _ => if x ∈ g.st then match slotOf g x with
    | some i => some ([i], gNm i)
    | none => none else none
   | .Tuple es _ _ => if es.all plainE = true then match (es.foldr (fun e acc => match gOf g n e, acc with
      | some (s, c), some (s2, c2) => some (s ++ s2, gsCons c c2)
      | _, _ => none) (some ([], gsNil)) : Option (List Nat × (List D → Env → M Env))) with
    | some (s, c) => some (s, gTp es.length c)
    | none => none else none
   | _ => none
section
variable {X : Cx} {g : Sg} {E : Xn → Prop}
theorem plains_find {env : PySem.Env} : ∀ {es : List Expr}, es.all plainE = true → (assignEach es env).findIdx? (·.1) = none ∧ (assignEach es env).length = es.length
  | [], _ => ⟨rfl, rfl⟩
  | e :: es, h => by
    rw [List.all_cons, Bool.and_eq_true] at h
    rw [plain_asg h.1, List.findIdx?_cons]
    obtain ⟨h1, h2⟩ := plains_find (env := env) h.2
    rw [h1]
    exact ⟨rfl, by rw [List.length_cons, List.length_cons, h2]⟩
theorem gOf_ok (ok : SgOk X g) : ∀ {n : Nat} {e : Expr} {p : List Nat × CG}, gOf g n e = some p → PG X e (rdG X.K E p.1 p.2)
  | 0, _, _, h => by simp [gOf] at h
  | n + 1, e, p, h => by
    unfold gOf at h
    split at h
    · split at h
      · rename_i hs
        split at h
        · rename_i i hi
          cases h
          obtain ⟨h1, h2, h3, h4⟩ := slotOf_is hi
          obtain ⟨s1, s2⟩ := ok.st _ hs
          exact rg_name (by rw [ok.N]; exact ok.nd) (by rw [ok.N]; exact h1) (by rw [ok.sc]; exact s1) (by rw [ok.sc]; exact s2)
        · cases h
      · cases h
    · rename_i es k tp
      split at h
      · rename_i hp
        split at h
        · rename_i s c hf
          cases h
          have main : ∀ (es : List Expr) (s : List Nat) (c : List D → Env → M Env), es.all plainE = true → (es.foldr (fun e acc => match gOf g n e, acc with
              | some (s, c), some (s2, c2) => some (s ++ s2, gsCons c c2)
              | _, _ => none) (some ([], gsNil)) : Option (List Nat × (List D → Env → M Env))) = some (s, c) → PGs X es (rdGs X.K E s c) := by
            intro es
            induction es with
            | nil => intro s c _ h; cases h; exact rgs_nil
            | cons e es ih =>
              intro s c hp h
              rw [List.foldr_cons] at h
              rw [List.all_cons, Bool.and_eq_true] at hp
              split at h
              · rename_i s1 c1 s2 c2 h1 h2
                cases h
                exact rgs_cons (gOf_ok (p := (s1, c1)) ok h1) (ih _ _ hp.2 h2) (by rw [plain_asg hp.1]; rfl)
              · cases h
          obtain ⟨q1, q2⟩ := plains_find (env := X.env) hp
          exact rg_tup ok.calm (main es s c hp hf) q2 q1
        · cases h
      · cases h
    · cases h
end
end DL

namespace DL
open PySem L2

/-! ### rules for expressions -/
abbrev VR := Rec → Sg → Expr → Option CV
def VrOk (f : VR) : Prop := ∀ {r : Rec}, RecOk r → ∀ {X : Cx} {g : Sg} {E : Xn → Prop} {e : Expr} {c : CV}, SgOk X g → f r g e = some c → PE X e (rdV X.K E c)

def vName : VR := fun _ g e => match e with
  | .Name x _ => match slotOf g x with
    | some i => if i ∈ g.own then none else some (cVar i)
    | none => if globB g x = true then match g.gl.lookup x with
      | some (.cv d) => some (cC d)
      | _ => none else none
  | _ => none
theorem vName_ok : VrOk vName := by
  intro r R X g E e c ok h
  unfold vName at h
  split at h
  · split at h
    · rename_i i hi
      split at h
      · cases h
      cases h
      obtain ⟨h1, h2, h3, h4⟩ := slotOf_is hi
      exact re_var (by rw [ok.N]; exact h1) (by rw [ok.sc]; exact h2) h3 h4
    · split at h
      · rename_i hg
        split at h
        · rename_i d hd
          cases h
          obtain ⟨v, u, h1, h2, h3⟩ := ok.gl _ _ hd
          obtain ⟨q1, q2⟩ := globB_is ok hg
          exact (pe_glob q1 h1 h2 q2).imp fun σ H Q' ⟨B, F0, F, ρ, Q, re, h, k⟩ => k v H F (d, false) re.gr (Val.of (h3 F)) h
        · cases h
      · cases h
  · cases h
def vConst : VR := fun _ _ e => match e with
  | .Constant (.int i) _ _ => some (cC (.int i))
  | .Constant (.bool b) _ _ => some (cC (.bl b))
  | .Constant .none _ _ => some (cC .non)
  | .Constant (.str x) _ _ => some (cC (.str x))
  | _ => none
theorem vConst_ok : VrOk vConst := by
  intro r R X g E e c ok h
  unfold vConst at h
  split at h
  · cases h; exact re_const pe_int fun F => .int _
  · cases h; exact re_const pe_bl fun F => .bl _
  · cases h; exact re_const pe_non fun F => .non
  · cases h; exact re_const pe_str fun F => .str _
  · cases h
def vBin : VR := fun r g e => match e with
  | .BinOp a op b _ => match bOf r g a, bOf r g b with
    | some x, some y => some (cBin op x y)
    | _, _ => none
  | .UnaryOp .USub a _ => (bOf r g a).map cNeg
  | .UnaryOp .Not a _ => (bOf r g a).map cNot
  | _ => none
theorem vBin_ok : VrOk vBin := by
  intro r R X g E e c ok h
  unfold vBin at h
  split at h
  · split at h
    · cases h; exact re_bin (bOf_ok R ok ‹_›) (bOf_ok R ok ‹_›)
    · cases h
  · obtain ⟨a, h1, rfl⟩ := map_some h
    exact re_neg (bOf_ok R ok h1)
  · obtain ⟨a, h1, rfl⟩ := map_some h
    exact re_not (bOf_ok R ok h1)
  · cases h
/-- and, or: from the left -/
def boolV (r : Rec) (g : Sg) (f : CV → CV → CV) : List Expr → Option CV
  | [] => none
  | [a] => r.v g a
  | a :: b :: es => match r.v g a, boolV r g f (b :: es) with
    | some x, some y => some (f x y)
    | _, _ => none
def vBool : VR := fun r g e => match e with
  | .BoolOp .And es _ => boolV r g cAnd es
  | .BoolOp .Or es _ => boolV r g cOr es
  | .IfExp t a b _ => match r.t g t, r.v g a, r.v g b with
    | some t, some x, some y => some (cIf t x y)
    | _, _, _ => none
  | _ => none
theorem boolV_and {r : Rec} (R : RecOk r) {X : Cx} {g : Sg} {E : Xn → Prop} {pos : Pos} (ok : SgOk X g) : ∀ {es : List Expr} {c : CV}, boolV r g cAnd es = some c → PE X (.BoolOp .And es pos) (rdV X.K E c)
  | [], _, h => by cases h
  | [a], _, h => pe_one (R.v ok h)
  | a :: b :: es, _, h => by
    unfold boolV at h
    split at h
    · cases h; exact re_and (R.v ok ‹_›) (boolV_and R ok ‹_›)
    · cases h
theorem boolV_or {r : Rec} (R : RecOk r) {X : Cx} {g : Sg} {E : Xn → Prop} {pos : Pos} (ok : SgOk X g) : ∀ {es : List Expr} {c : CV}, boolV r g cOr es = some c → PE X (.BoolOp .Or es pos) (rdV X.K E c)
  | [], _, h => by cases h
  | [a], _, h => pe_one (R.v ok h)
  | a :: b :: es, _, h => by
    unfold boolV at h
    split at h
    · cases h; exact re_or (R.v ok ‹_›) (boolV_or R ok ‹_›)
    · cases h
theorem vBool_ok : VrOk vBool := by
  intro r R X g E e c ok h
  unfold vBool at h
  split at h
  · exact boolV_and R ok h
  · exact boolV_or R ok h
  · split at h
    · cases h; exact re_if (R.t ok ‹_›) (R.v ok ‹_›) (R.v ok ‹_›)
    · cases h
  · cases h
/-- a comparison -/
def cmpOf (r : Rec) (g : Sg) (e : Expr) : Option CT := match e with
  | .Compare a [op] [b] _ => if behindInMarks op b = false then match bOf r g a, bOf r g b with
    | some x, some y => some (tCm op x y)
    | _, _ => none else none
  | .Compare a [op, op'] [b, c] _ => if lastMarks [op, op'] [b, c] = false then match bOf r g a, bOf r g b, bOf r g c with
    | some x, some y, some z => some (tCh op op' x y z)
    | _, _, _ => none else none
  | _ => none
def vCmp : VR := fun r g e => (cmpOf r g e).map vT
section
variable {r : Rec} (R : RecOk r) {X : Cx} {g : Sg} {E : Xn → Prop} {e : Expr} {c : CT} (ok : SgOk X g)
include R ok
theorem cmpOf_ok (h : cmpOf r g e = some c) : PE X e (rdV X.K E (vT c)) ∧ PT X e (rdT X.K E c) := by
  have hu : X.A.units + 65 < cLine := Nat.lt_of_le_of_lt (Nat.add_le_add_left (by decide) _) ok.un
  unfold cmpOf at h
  split at h
  · split at h
    · rename_i hm
      split at h
      · rename_i ha hb
        cases h
        exact ⟨re_cm hu (bOf_ok R ok ha) (bOf_ok R ok hb) hm, rt_cm hu (bOf_ok R ok ha) (bOf_ok R ok hb) hm⟩
      · cases h
    · cases h
  · split at h
    · rename_i hm
      split at h
      · rename_i ha hb hc
        cases h
        exact ⟨re_ch hu (bOf_ok R ok ha) (bOf_ok R ok hb) (bOf_ok R ok hc) hm, rt_ch hu (bOf_ok R ok ha) (bOf_ok R ok hb) (bOf_ok R ok hc) hm⟩
      · cases h
    · cases h
  · cases h
end
theorem vCmp_ok : VrOk vCmp := by
  intro r R X g E e c ok h
  obtain ⟨t, h1, rfl⟩ := map_some h
  exact (cmpOf_ok R ok h1).1
def oOf (r : Rec) (g : Sg) : Option Expr → Option CO
  | none => some oNo
  | some e => (bOf r g e).map oIs
theorem oOf_ok {r : Rec} (R : RecOk r) {X : Cx} {g : Sg} {E : Xn → Prop} (ok : SgOk X g) {e : Option Expr} {c : CO} (h : oOf r g e = some c) : PO X e (rdO X.K E c) := by
  unfold oOf at h
  split at h
  · cases h; exact ro_no
  · obtain ⟨x, h1, rfl⟩ := map_some h
    exact ro_is (bOf_ok R ok h1)
def vSeq : VR := fun r g e => match e with
  | .Tuple es _ _ => (lOf r g es).map cTup
  | .List es _ => (lOf r g es).map cLst
  | .Subscript a (.Slice lo hi none _) _ => match bOf r g a, oOf r g lo, oOf r g hi with
    | some x, some l, some u => some (cSl x l u)
    | _, _, _ => none
  | .Subscript a b _ => if plainE b = true then match bOf r g a, bOf r g b with
    | some x, some y => some (cIx x y)
    | _, _ => none else none
  | _ => none
theorem vSeq_ok : VrOk vSeq := by
  intro r R X g E e c ok h
  unfold vSeq at h
  split at h
  · obtain ⟨x, h1, rfl⟩ := map_some h
    exact re_tup (lOf_ok R ok h1).1
  · obtain ⟨x, h1, rfl⟩ := map_some h
    exact re_lst (lOf_ok R ok h1).1
  · split at h
    · cases h; exact re_sl (bOf_ok R ok ‹_›) (oOf_ok R ok ‹_›) (oOf_ok R ok ‹_›)
    · cases h
  · split at h
    · rename_i hp
      split at h
      · cases h; exact re_ix (bOf_ok R ok ‹_›) (bOf_ok R ok ‹_›) (plain_ix hp)
      · cases h
    · cases h
  · cases h
def vCall : VR := fun r g e => match e with
  | .Call (.Name x _) es kws _ => if globB g x = true then match g.gl.lookup x with
    | some (.fn n m kw) => match kws with
      | [] => (lOf r g es).map (cCall n m)
      | kws => match kw.find? (fun z => decide (z.1 = es.length ∧ kws.map (·.arg) = z.2.1.map some)), lOf r g es, kOf r g kws with
        | some z, some l, some k => some (cCallK n z.2.2 m l k)
        | _, _, _ => none
    | some (.fo n m kw) => match kws with
      | [] => (lOf r g es).map (cCallF true n m)
      | kws => match kw.find? (fun z => decide (z.1 = es.length ∧ kws.map (·.arg) = z.2.1.map some)), lOf r g es, kOf r g kws with
        | some z, some l, some k => some (cCallKF true n z.2.2 m l k)
        | _, _, _ => none
    | some (.bi _ m) => match es, kws with
      | e :: es, [] => (mOf r g (e :: es)).map (cB m)
      | _, _ => none
    | some (.ty _ m) => match es, kws with
      | e :: es, [] => (mOf r g (e :: es)).map (cB m)
      | _, _ => none
    | _ => none else none
  | _ => none
theorem vCall_ok : VrOk vCall := by
  intro r R X g E e c ok h
  unfold vCall at h
  split at h
  · rename_i x p es kws pos
    split at h
    · rename_i hg
      obtain ⟨q1, q2⟩ := globB_is ok hg
      split at h
      · rename_i n m kw hl
        obtain ⟨k, f, fd, ps, F, hr, hm, hk, hb, hn, hkw⟩ := ok.gl _ _ hl
        subst hn
        split at h
        · obtain ⟨l, h1, rfl⟩ := map_some h
          obtain ⟨h2, h3⟩ := lOf_ok (E := E) R ok h1
          cases es with
          | nil =>
            simp only [lOf, Option.some.injEq] at h1
            subst h1
            exact re_call0 F hr ok.gd q1 hm hk hb q2
          | cons e es =>
            rw [List.all_cons, Bool.and_eq_true] at h3
            exact re_call F hr ok.gd q1 hm hk hb h2 q2 (plain_star h3.1) (plains_pl h3.2)
        · split at h
          · rename_i z l kl hz h1 hk1
            cases h
            have hz1 := List.mem_of_find?_eq_some hz
            have hz2 := List.find?_some hz
            have hz2 := of_decide_eq_true hz2
            obtain ⟨h2, h3⟩ := lOf_ok (E := E) R ok h1
            have kk := kOf_ok (E := E) R ok hk1
            have hlen : kws.length = z.2.1.length := by
              have := congrArg List.length hz2.2
              simpa using this
            rw [hlen] at kk
            have hKw := hkw z hz1
            cases es with
            | nil =>
              simp only [lOf, Option.some.injEq] at h1
              subst h1
              have h0 : z.1 = 0 := hz2.1
              rw [h0] at hKw
              exact re_callK0 F hr ok.gd q1 hm hk hKw kk hz2.2 q2
            | cons e es =>
              have hpl := plains_pl (env := X.env) (pos := pos) h3
              rw [List.all_cons, Bool.and_eq_true] at h3
              rw [← hz2.1] at h2
              exact re_callK F hr ok.gd q1 hm hk hKw h2 kk (plain_star h3.1) hpl hz2.2 q2
          · cases h
      · rename_i n m kw hl
        obtain ⟨k, f, fd, ps, F, hr, hm, hk, hb, hn, hkw⟩ := ok.gl _ _ hl
        subst hn
        split at h
        · obtain ⟨l, h1, rfl⟩ := map_some h
          obtain ⟨h2, h3⟩ := lOf_ok (E := E) R ok h1
          cases es with
          | nil =>
            simp only [lOf, Option.some.injEq] at h1
            subst h1
            exact re_call0 F hr ok.gd q1 hm hk hb q2
          | cons e es =>
            rw [List.all_cons, Bool.and_eq_true] at h3
            exact re_call F hr ok.gd q1 hm hk hb h2 q2 (plain_star h3.1) (plains_pl h3.2)
        · split at h
          · rename_i z l kl hz h1 hk1
            cases h
            have hz1 := List.mem_of_find?_eq_some hz
            have hz2 := List.find?_some hz
            have hz2 := of_decide_eq_true hz2
            obtain ⟨h2, h3⟩ := lOf_ok (E := E) R ok h1
            have kk := kOf_ok (E := E) R ok hk1
            have hlen : kws.length = z.2.1.length := by
              have := congrArg List.length hz2.2
              simpa using this
            rw [hlen] at kk
            have hKw := hkw z hz1
            cases es with
            | nil =>
              simp only [lOf, Option.some.injEq] at h1
              subst h1
              have h0 : z.1 = 0 := hz2.1
              rw [h0] at hKw
              exact re_callK0 F hr ok.gd q1 hm hk hKw kk hz2.2 q2
            | cons e es =>
              have hpl := plains_pl (env := X.env) (pos := pos) h3
              rw [List.all_cons, Bool.and_eq_true] at h3
              rw [← hz2.1] at h2
              exact re_callK F hr ok.gd q1 hm hk hKw h2 kk (plain_star h3.1) hpl hz2.2 q2
          · cases h
      · rename_i id m hl
        obtain ⟨hm, hv, hn, hc⟩ := ok.gl _ _ hl
        split at h
        · obtain ⟨l, h1, rfl⟩ := map_some h
          obtain ⟨h2, h3⟩ := mOf_ok (E := E) R ok h1
          rw [List.all_cons, Bool.and_eq_true] at h3
          exact re_callB (hc X ok.calm ok.gd ok.un) q1 hm hv h2 hn q2 (plain_star h3.1) (plains_pl h3.2)
        · cases h
      · rename_i id m hl
        obtain ⟨hm, hv, hn, hc⟩ := ok.gl _ _ hl
        split at h
        · obtain ⟨l, h1, rfl⟩ := map_some h
          obtain ⟨h2, h3⟩ := mOf_ok (E := E) R ok h1
          rw [List.all_cons, Bool.and_eq_true] at h3
          exact re_callT (hc X ok.calm ok.gd ok.un) q1 hm hv h2 hn q2 (plain_star h3.1) (plains_pl h3.2)
        · cases h
      · cases h
    · cases h
  · cases h

/-! ### tests -/
def boolT (r : Rec) (g : Sg) (f : CT → CT → CT) : List Expr → Option CT
  | [] => none
  | [a] => r.t g a
  | a :: b :: es => match r.t g a, boolT r g f (b :: es) with
    | some x, some y => some (f x y)
    | _, _ => none
def tOf (r : Rec) (g : Sg) (e : Expr) : Option CT := match e with
  | .Compare a ops bs p => cmpOf r g (.Compare a ops bs p)
  | .BoolOp .And es _ => boolT r g tAn es
  | .BoolOp .Or es _ => boolT r g tOr' es
  | .UnaryOp .Not a _ => (r.t g a).map tNo
  | e => if noTest e = true then (bOf r g e).map tTru else none
section
variable {r : Rec} (R : RecOk r) {X : Cx} {g : Sg} {E : Xn → Prop} {pos : Pos} (ok : SgOk X g)
include R ok
theorem boolT_and : ∀ {es : List Expr} {c : CT}, boolT r g tAn es = some c → PW X (.BoolOp .And es pos) (rdT X.K E c)
  | [], _, h => by cases h
  | [a], _, h => pw_and1 (R.t ok h)
  | a :: b :: es, _, h => by
    unfold boolT at h
    split at h
    · cases h; exact rw_and (R.t ok ‹_›) (boolT_and ‹_›)
    · cases h
theorem boolT_or : ∀ {es : List Expr} {c : CT}, boolT r g tOr' es = some c → PW X (.BoolOp .Or es pos) (rdT X.K E c)
  | [], _, h => by cases h
  | [a], _, h => pw_or1 (R.t ok h)
  | a :: b :: es, _, h => by
    unfold boolT at h
    split at h
    · cases h; exact rw_or (R.t ok ‹_›) (boolT_or ‹_›)
    · cases h
theorem tOf_ok {e : Expr} {c : CT} (h : tOf r g e = some c) : PT X e (rdT X.K E c) := by
  unfold tOf at h
  split at h
  · exact (cmpOf_ok R ok h).2
  · exact (boolT_and R ok h).pt
  · exact (boolT_or R ok h).pt
  · obtain ⟨t, h1, rfl⟩ := map_some h
    exact rt_not (R.t ok h1)
  · split at h
    · rename_i hn
      obtain ⟨t, h1, rfl⟩ := map_some h
      exact rt_tru (bOf_ok R ok h1) (noTest_is hn)
    · cases h
end
end DL

namespace DL
open PySem L2

/-! ### rules for what is walked -/
abbrev IR := Rec → Sg → Expr → Expr → Option CI
def IrOk (f : IR) : Prop := ∀ {r : Rec}, RecOk r → ∀ {X : Cx} {g : Sg} {E : Xn → Prop} {tg e : Expr} {c : CI}, SgOk X g → f r g tg e = some c → PI X tg e (rdI X.K E c)
def spB (g : Sg) (x y : Str) : Bool := decide (x = y) && globB g x && (match g.gl.lookup x with | some .sp => true | _ => false)
theorem spB_is {X : Cx} {g : Sg} (ok : SgOk X g) {x y : Str} (h : spB g x y = true) : x = y ∧ Gl X y ∧ X.mg y = none := by
  unfold spB at h
  rw [Bool.and_eq_true, Bool.and_eq_true] at h
  obtain ⟨⟨h1, h2⟩, h3⟩ := h
  have h1 := of_decide_eq_true h1
  subst h1
  refine ⟨rfl, (globB_is ok h2).1, ?_⟩
  split at h3
  · rename_i hl; exact ok.gl _ _ hl
  · cases h3
def iRange : IR := fun r g _ e => match e with
  | .Call (.Name x _) es [] _ => if (spB g x "range" && decide (es.length = 1 ∨ es.length = 2 ∨ es.length = 3)) = true then (lOf r g es).map iRng else none
  | _ => none
theorem iRange_ok : IrOk iRange := by
  intro r R X g E tg e c ok h
  unfold iRange at h
  split at h
  · rename_i x p es pos
    split at h
    · rename_i hs
      rw [Bool.and_eq_true] at hs
      obtain ⟨rfl, q1, q2⟩ := spB_is ok hs.1
      have hl := of_decide_eq_true hs.2
      obtain ⟨l, h1, rfl⟩ := map_some h
      obtain ⟨h2, h3⟩ := lOf_ok (E := E) R ok h1
      rcases hl with hl | hl | hl
      · obtain ⟨a, rfl⟩ := len1 hl
        rw [List.all_cons, Bool.and_eq_true] at h3
        exact ri_range1 q1 q2 h2 (plain_star h3.1)
      · obtain ⟨a, b, rfl⟩ := len2 hl
        rw [List.all_cons, List.all_cons, Bool.and_eq_true, Bool.and_eq_true] at h3
        exact ri_range2 q1 q2 h2 (by rw [plain_star h3.1, plain_star h3.2.1]; rfl) (plain_star h3.2.1)
      · obtain ⟨a, b, d, rfl⟩ := len3 hl
        rw [List.all_cons, Bool.and_eq_true] at h3
        exact ri_range3 q1 q2 h2 (plain_star h3.1) (plains_pl h3.2)
    · cases h
  · cases h
def iPlain : IR := fun r g _ e => (fOf r g e).map iSeq
theorem iPlain_ok : IrOk iPlain := by
  intro r R X g E tg e c ok h
  obtain ⟨x, h1, rfl⟩ := map_some h
  exact ri_seq (fOf_ok R ok h1)

/-! ### list comprehensions -/
def ownOf (g : Sg) (scope : Scope) : List (Str × Nat) := scope.names.filterMap fun y => match y.2 with
  | .local => (g.N.idxOf? y.1).map fun i => (y.1, i)
  | .cell => (g.N.idxOf? y.1).map fun i => (y.1, i)
  | _ => none
def blkSg (g : Sg) (scope : Scope) : Sg := { g with sc := relS scope g.sc, st := (scope.names.filter fun y => match y.2 with | .local => true | .cell => true | _ => false).map (·.1) }
def stB (sc' : Scope) (scope : Scope) (x : Str) : Bool := match sc'.names.lookup x with
  | some .local => true
  | some .cell => (match scope.names.lookup x with | some .cell => true | _ => false)
  | _ => false
theorem stB_is {sc' scope : Scope} {x : Str} (h : stB sc' scope x = true) : L2.Loc sc' x ∧ ((scope.names.lookup x == some .cell) = true ∨ sc'.names.lookup x = some .local) := by
  unfold stB at h
  unfold L2.Loc
  split at h
  · rename_i q; exact ⟨.inl q, .inr q⟩
  · rename_i q
    refine ⟨.inr q, .inl ?_⟩
    split at h
    · rename_i z; rw [z]; rfl
    · cases h
  · cases h
def testsOf (r : Rec) (g : Sg) : List Expr → Option CT
  | [] => some tYesD
  | [c] => r.t g c
  | _ => none
structure LcD where
  own : List (Str × Nat)
  sl : List Nat
  ci : CI
  gg : CG
  t : CT
  xe : CB
def lcOf (r : Rec) (g : Sg) (elt tg iter : Expr) (ifs : List Expr) (scope : Scope) : Option LcD :=
  if (blkC g.N g.sc scope (ownOf g scope) && (blkSg g scope).st.all (stB (relS scope g.sc) scope) && plainE iter && decide ((blkSg g scope).sc.kind = .function)) = true then
    match r.i g tg iter, gOf (blkSg g scope) 6 tg, testsOf r (blkSg g scope) ifs, fOf r (blkSg g scope) elt with
    | some ci, some (sl, gg), some t, some xe => if (sl.all fun i => decide (i ∈ (ownOf g scope).map (·.2))) = true then some ⟨ownOf g scope, sl, ci, gg, t, xe⟩ else none
    | _, _, _, _ => none
  else none
def LcD.c (d : LcD) : CV := cLc (d.own.map (·.2)) d.ci d.gg d.t d.xe
structure LcOk (X : Cx) (E : Xn → Prop) (elt tg iter : Expr) (ifs : List Expr) (scope : Scope) (d : LcD) : Prop where
  hsl : ∀ i ∈ d.sl, i ∈ d.own.map (·.2)
  hi : PI X tg iter (rdI X.K E d.ci)
  ok : BlkOk X.N X.env.scope scope d.own
  hg : ∀ (s : Shared) (H : Hp) (C : Addr) (cl : List (Str × Addr)) (fp : List Addr), PG (X.blk s H scope (compEnvC scope cl C X.env) fp) tg (rdG X.K E d.sl d.gg)
  ht : ∀ (s : Shared) (H : Hp) (C : Addr) (cl : List (Str × Addr)) (fp : List Addr), PTs (X.blk s H scope (compEnvC scope cl C X.env) fp) ifs (rdT X.K E d.t)
  he : ∀ (s : Shared) (H : Hp) (C : Addr) (cl : List (Str × Addr)) (fp : List Addr), PE (X.blk s H scope (compEnvC scope cl C X.env) fp) elt (rdF X.K E d.xe)
  hs : ∀ x, foldedSetIterable iter X.env x = pure x
theorem blkSg_ok {X : Cx} {g : Sg} (ok : SgOk X g) {scope : Scope} (h1 : (blkSg g scope).st.all (stB (relS scope g.sc) scope) = true) (h2 : (blkSg g scope).sc.kind = .function) (s : Shared) (H : Hp) (C : Addr) (cl : List (Str × Addr)) (fp : List Addr) :
    SgOk (X.blk s H scope (compEnvC scope cl C X.env) fp) (blkSg g scope) where
  N := ok.N
  nd := ok.nd
  sc := by
    show relS scope X.env.scope = relS scope g.sc
    rw [ok.sc]
  kind := h2
  calm := ok.calm
  gd := ok.gd
  un := ok.un
  st := fun x hx => by
    have := List.all_eq_true.mp h1 x hx
    obtain ⟨a, b⟩ := stB_is this
    exact ⟨a, b⟩
  gl := ok.gl
theorem lcOf_ok {r : Rec} (R : RecOk r) {X : Cx} {g : Sg} {E : Xn → Prop} (ok : SgOk X g) {elt tg iter : Expr} {ifs : List Expr} {scope : Scope} {d : LcD} (h : lcOf r g elt tg iter ifs scope = some d) : LcOk X E elt tg iter ifs scope d := by
  unfold lcOf at h
  split at h
  · rename_i hb
    rw [Bool.and_eq_true, Bool.and_eq_true, Bool.and_eq_true] at hb
    obtain ⟨⟨⟨b1, b2⟩, b3⟩, b4⟩ := hb
    have b4 := of_decide_eq_true b4
    split at h
    · rename_i ci sl gg t xe h1 h2 h3 h4
      split at h
      · rename_i hs
        cases h
        have bk := blkSg_ok ok b2 b4
        refine ⟨fun i hi => of_decide_eq_true (List.all_eq_true.mp hs i hi), R.i ok h1, ?_, fun s H C cl fp => gOf_ok (p := (sl, gg)) (bk s H C cl fp) h2, fun s H C cl fp => ?_, fun s H C cl fp => fOf_ok R (bk s H C cl fp) h4, plain_set b3⟩
        · rw [ok.N, ok.sc]; exact blkOk_by b1
        · unfold testsOf at h3
          split at h3
          · cases h3; exact rts_nil
          · exact pts_one (R.t (bk s H C cl fp) h3)
          · cases h3
      · cases h
    · cases h
  · cases h
def vLc : VR := fun r g e => match e with
  | .ListComp elt [⟨tg, iter, ifs, 0⟩] scope _ => (lcOf r g elt tg iter ifs scope).map LcD.c
  | _ => none
theorem vLc_ok : VrOk vLc := by
  intro r R X g E e c ok h
  unfold vLc at h
  split at h
  · obtain ⟨d, h1, rfl⟩ := map_some h
    have L := lcOf_ok (E := E) R ok h1
    exact re_lc L.hsl ok.calm (by rw [ok.N]; exact ok.nd) L.hi L.ok L.hg L.ht L.he L.hs
  · cases h
/-- name = [..]: the list stored ahead of the block's end -/
def swB (g : Sg) (scope : Scope) (y : Str) (l1 l2 : Nat) : Bool := (match g.sc.names.lookup y with | some .local => true | _ => false) && (l1 == l2) && !(scope.names.any fun (n, k) => n == y && (k == .local || k == .cell))
theorem sw_lc {X : Cx} {g : Sg} (ok : SgOk X g) {elt : Expr} {gs : List Comprehension} {scope : Scope} {pos py : Pos} {y : Str} {l : Nat} : swapsWith (.ListComp elt gs scope pos) (some (.Name y py)) l X.env = pure (swB g scope y py.line pos.line) := by
  have hk : X.env.scope.kind = .function := by rw [ok.sc]; exact ok.kind
  have hb : X.env.blockKind = .function := by unfold PySem.Env.blockKind; rw [hk]; rfl
  have e1 : (match g.sc.names.lookup y with | some .local => true | _ => false) = (X.env.kindOf y == some .local) := by
    show _ = (X.env.scope.names.lookup y == some .local)
    rw [ok.sc]
    cases g.sc.names.lookup y with
    | none => rfl
    | some k => cases k <;> rfl
  unfold swapsWith swB
  rw [e1]
  simp only [hb, Expr.pos]
  rfl

/-! ### rules for statements -/
abbrev SR := Rec → Sg → Stmt → Option CS
def SrOk (f : SR) : Prop := ∀ {r : Rec}, RecOk r → ∀ {X : Cx} {g : Sg} {E : Xn → Prop} {st : Stmt} {c : CS}, SgOk X g → PassesOwn (model X.prog X.w) X.A X.env X.xe → f r g st = some c → PS X st (rdS X.K E c)
def ssOf (r : Rec) (g : Sg) : List Stmt → Option CS
  | [] => some sNil
  | [s] => r.s g s
  | s :: s2 :: ss => match r.s g s, ssOf r g (s2 :: ss) with
    | some a, some b => some (sSeq a b)
    | _, _ => none
theorem ssOf_ok {r : Rec} (R : RecOk r) {X : Cx} {g : Sg} {E : Xn → Prop} (ok : SgOk X g) (hp : PassesOwn (model X.prog X.w) X.A X.env X.xe) : ∀ {ss : List Stmt} {c : CS}, ssOf r g ss = some c → PSs X ss (rdS X.K E c)
  | [], _, h => by cases h; exact rss_nil
  | [s], _, h => rss_one (R.s ok hp h)
  | s :: s2 :: ss, _, h => by
    unfold ssOf at h
    split at h
    · cases h; exact rss_cons (R.s ok hp ‹_›) (ssOf_ok R ok hp ‹_›)
    · cases h
/-- x.pop(), x.pop(e); or any -/
def uOfE (r : Rec) (g : Sg) (e : Expr) : Option CU := match e with
  | .Call (.Attribute (.Name x _) m ap) [] [] cp => if m = ("pop" : Str) ∧ (ap.endLine == cp.line) = true then (slotOf g x).map uPop else (fOf r g e).map uOf
  | .Call (.Attribute (.Name x _) m ap) [a] [] cp => if m = ("pop" : Str) ∧ (ap.endLine == cp.line) = true ∧ plainE a = true then match slotOf g x, fOf r g a with
    | some i, some c => some (uPopAt i c)
    | _, _ => none else (fOf r g e).map uOf
  | e => (fOf r g e).map uOf
theorem few1 {a : Expr} {X : Cx} {pos : Pos} (h : plainE a = true) : ((backTo pos (starEach [a] X.env)).all (fun x => !x.1) && (backToKw pos (keywordEach [] X.env)).all (fun x => x.1.isSome) && decide ([a].length + ([] : List Keyword).length + (if ([] : List Keyword).isEmpty then 0 else 1) < 30)) = true := by
  rw [plain_star h]
  rfl
theorem uOfE_ok {r : Rec} (R : RecOk r) {X : Cx} {g : Sg} {E : Xn → Prop} (ok : SgOk X g) {e : Expr} {c : CU} (h : uOfE r g e = some c) : PE X e (rdU X.K E c) := by
  have gen : ∀ {e : Expr}, (fOf r g e).map uOf = some c → PE X e (rdU X.K E c) := fun h => by
    obtain ⟨a, h1, rfl⟩ := map_some h
    exact ru_of (fOf_ok R ok h1)
  unfold uOfE at h
  split at h
  · split at h
    · rename_i hm
      obtain ⟨rfl, hl⟩ := hm
      obtain ⟨i, h1, rfl⟩ := map_some h
      obtain ⟨q1, q2, q3, q4⟩ := slotOf_is h1
      exact ru_pop (by rw [ok.N]; exact q1) (by rw [ok.sc]; exact q2) q3 q4 rfl hl
    · exact gen h
  · split at h
    · rename_i hm
      obtain ⟨rfl, hl, hp⟩ := hm
      split at h
      · rename_i i c h1 h2
        cases h
        obtain ⟨q1, q2, q3, q4⟩ := slotOf_is h1
        exact ru_popAt (by rw [ok.N]; exact q1) (by rw [ok.sc]; exact q2) q3 q4 (fOf_ok R ok h2) rfl (few1 hp) hl (plain_star hp) rfl
      · cases h
    · exact gen h
  · exact gen h
def isPop : Expr → Bool
  | .Call (.Attribute (.Name _ _) m _) _ [] _ => decide (m = ("pop" : Str))
  | _ => false
def sExpr : SR := fun r g st => match st with
  | .Pass _ => some sNil
  | .Expr (.Constant (.str _) _ _) _ => some sNil
  | .Expr e@(.Call (.Attribute (.Name x _) m ap) [a] [] cp) _ => if m = ("append" : Str) ∧ (ap.endLine == cp.line) = true ∧ plainE a = true then match slotOf g x, uOfE r g a with
    | some i, some u => some (sApp i u)
    | _, _ => none else (r.v g e).map sDrop
  | .Expr e _ => if noComp e = true then (r.v g e).map sDrop else none
  | _ => none
theorem sExpr_ok : SrOk sExpr := by
  intro r R X g E st c ok hp h
  unfold sExpr at h
  split at h
  · cases h; exact rs_pass
  · cases h
    exact PS.imp ps_doc fun Dn σ H ⟨B, F0, F, ρ, W, re, h, l⟩ => l.nx σ H F ρ re h
  · split at h
    · rename_i hm
      obtain ⟨rfl, hl, hpl⟩ := hm
      split at h
      · rename_i i u h1 h2
        cases h
        obtain ⟨q1, q2, q3, q4⟩ := slotOf_is h1
        exact rs_app (by rw [ok.N]; exact q1) (by rw [ok.sc]; exact q2) q3 q4 (uOfE_ok R ok h2) rfl (few1 hpl) hl (plain_star hpl) rfl (noComp_sw rfl _ _)
      · cases h
    · obtain ⟨v, h1, rfl⟩ := map_some h
      exact rs_drop (R.v ok h1) (noComp_sw rfl _ _)
  · split at h
    · rename_i hn
      obtain ⟨v, h1, rfl⟩ := map_some h
      exact rs_drop (R.v ok h1) (noComp_sw hn _ _)
    · cases h
  · cases h
def sName : SR := fun r g st => match st with
  | .Assign [.Name y py] (.ListComp elt [⟨tg, iter, ifs, 0⟩] scope pos) _ => if y ∈ g.st then match slotOf g y, lcOf r g elt tg iter ifs scope with
    | some i, some d => some (sSet i (decide (i ∈ g.own)) d.c)
    | _, _ => none else none
  | .Assign [.Name y _] e _ => if y ∈ g.st ∧ noComp e = true then
      if isPop e = true then match slotOf g y, uOfE r g e with
        | some i, some u => some (sSetU i u)
        | _, _ => none
      else match slotOf g y, r.v g e with
        | some i, some v => some (sSet i (decide (i ∈ g.own)) v)
        | _, _ => none
    else none
  | _ => none
theorem sName_ok : SrOk sName := by
  intro r R X g E st c ok hp h
  have hN : X.N.Nodup := by rw [ok.N]; exact ok.nd
  unfold sName at h
  split at h
  · rename_i y py elt tg iter ifs scope pos spos
    split at h
    · rename_i hs
      split at h
      · rename_i i d h1 h2
        cases h
        obtain ⟨q1, q2, q3, q4⟩ := slotOf_is h1
        obtain ⟨s1, s2⟩ := ok.st _ hs
        have L := lcOf_ok (E := E) R ok h2
        have h1' : X.N[i]? = some y := by rw [ok.N]; exact q1
        have s1' : L2.Loc X.env.scope y := by rw [ok.sc]; exact s1
        have s2' : X.fn y = true ∨ X.env.scope.names.lookup y = some .local := by rw [ok.sc]; exact s2
        cases hsw : swB g scope y py.line pos.line with
        | false => exact rs_set _ hN h1' s1' s2' (re_lc L.hsl ok.calm hN L.hi L.ok L.hg L.ht L.he L.hs) (by rw [sw_lc ok, hsw])
        | true =>
          have hyl : X.env.scope.names.lookup y = some .local := by
            rw [ok.sc]
            unfold swB at hsw
            rw [Bool.and_eq_true, Bool.and_eq_true] at hsw
            have := hsw.1.1
            split at this
            · assumption
            · cases this
          exact PS.imp (ps_setLc ok.calm hN h1' hyl (by rw [sw_lc ok, hsw]) L.hi L.ok L.hg L.ht L.he L.hs) fun Dn σ H h => lc_imp L.hsl (set_imp h)
      · cases h
    · cases h
  · split at h
    · rename_i hs
      obtain ⟨s1, s2⟩ := ok.st _ hs.1
      split at h
      · split at h
        · rename_i h1 h2
          cases h
          obtain ⟨q1, q2, q3, q4⟩ := slotOf_is h1
          exact rs_setU hN (by rw [ok.N]; exact q1) (by rw [ok.sc]; exact s1) (by rw [ok.sc]; exact s2) (uOfE_ok R ok h2) (noComp_sw hs.2 _ _)
        · cases h
      · split at h
        · rename_i h1 h2
          cases h
          obtain ⟨q1, q2, q3, q4⟩ := slotOf_is h1
          exact rs_set _ hN (by rw [ok.N]; exact q1) (by rw [ok.sc]; exact s1) (by rw [ok.sc]; exact s2) (R.v ok h2) (noComp_sw hs.2 _ _)
        · cases h
    · cases h
  · cases h
def notTup : Expr → Bool
  | .Tuple .. => false
  | _ => true
theorem stores_no {e tg : Expr} {env : PySem.Env} (h : notTup e = true) : swappedStores [tg] e env = pure none := by
  unfold swappedStores
  cases e <;> first | (cases tg <;> rfl) | cases h
def sTup : SR := fun r g st => match st with
  | .Assign [.Tuple ts k p] e _ => if (notTup e && noComp e) = true then match gOf g 6 (.Tuple ts k p), fOf r g e with
    | some (_, gg), some x => some (sAsg gg x)
    | _, _ => none else none
  | _ => none
theorem sTup_ok : SrOk sTup := by
  intro r R X g E st c ok hp h
  unfold sTup at h
  split at h
  · split at h
    · rename_i hn
      rw [Bool.and_eq_true] at hn
      split at h
      · rename_i sl gg x h1 h2
        cases h
        exact rs_asg (fOf_ok R ok h2) (gOf_ok (p := (sl, gg)) ok h1) (by unfold swapsWithSole; exact noComp_sw hn.2 _ _) (stores_no hn.1) rfl
      · cases h
    · cases h
  · cases h
def sFlow : SR := fun r g st => match st with
  | .Return (some e) _ => (fOf r g e).map sRet
  | .Return none _ => some sRetN
  | .If t a b _ => match r.t g t, ssOf r g a, ssOf r g b with
    | some t, some a, some b => some (sIf t a b)
    | _, _, _ => none
  | .While t a [] _ => match r.t g t, ssOf r g a with
    | some t, some a => some (sWhile t a)
    | _, _ => none
  | .For tg it a [] _ => if plainE it = true then match r.i g tg it, gOf g 6 tg, ssOf r g a with
    | some ci, some (_, gg), some a => some (sFor ci gg a)
    | _, _, _ => none else none
  | .Break _ => some sBrk
  | .Continue _ => some sCnt
  | .Raise .. => some sNo
  | _ => none
theorem sFlow_ok : SrOk sFlow := by
  intro r R X g E st c ok hp h
  unfold sFlow at h
  split at h
  · obtain ⟨x, h1, rfl⟩ := map_some h
    exact rs_ret (fOf_ok R ok h1)
  · cases h; exact rs_retN
  · split at h
    · cases h; exact rs_if (R.t ok ‹_›) (ssOf_ok R ok hp ‹_›) (ssOf_ok R ok hp ‹_›)
    · cases h
  · split at h
    · cases h; exact rs_while hp (R.t ok ‹_›) (ssOf_ok R ok hp ‹_›)
    · cases h
  · split at h
    · rename_i hpl
      split at h
      · rename_i ci sl gg a h1 h2 h3
        cases h
        exact rs_for hp ok.calm (R.i ok h1) (gOf_ok (p := (sl, gg)) ok h2) (ssOf_ok R ok hp h3) (plain_set hpl)
      · cases h
    · cases h
  · cases h; exact rs_brk
  · cases h; exact rs_cnt
  · cases h; exact rs_no
  · cases h
theorem sub_asg {o i : Expr} {env : PySem.Env} {pos : Pos} {v : Value} (h : plainE i = true) : assign (.Subscript o i pos) env v = (do
      let ov ← holding [v] (eval o env)
      let iv ← holding [v, ov] (eval i env)
      standAt pos
      holding [v, ov, iv] (setItem ov iv v)
      release [v, ov, iv] []) := by
  cases i <;> first | rfl | cases h
def sSub : SR := fun r g st => match st with
  | .Assign [.Subscript (.Name x _) ix _] e _ => if (plainE ix && noComp e && notTup e) = true then match slotOf g x, fOf r g e, fOf r g ix with
    | some i, some c, some k => some (sPut i c k)
    | _, _, _ => none else none
  | _ => none
theorem sSub_ok : SrOk sSub := by
  intro r R X g E st c ok hp h
  unfold sSub at h
  split at h
  · split at h
    · rename_i hn
      rw [Bool.and_eq_true, Bool.and_eq_true] at hn
      split at h
      · rename_i i c k h1 h2 h3
        cases h
        obtain ⟨q1, q2, q3, q4⟩ := slotOf_is h1
        exact rs_put (by rw [ok.N]; exact q1) (by rw [ok.sc]; exact q2) q3 q4 (fOf_ok R ok h2) (fOf_ok R ok h3) (fun v => sub_asg hn.1.1) (by unfold swapsWithSole; exact noComp_sw hn.1.2 _ _) (stores_no hn.2) rfl
      · cases h
    · cases h
  · cases h
end DL

namespace DL
open PySem L2

/-! ### two names at once -/
def parB (g : Sg) (x y : Str) (l1 l2 lt : Nat) (a b : Expr) : Bool :=
  plainE a && plainE b && (match g.sc.names.lookup x with | some .local => true | _ => false) && (match g.sc.names.lookup y with | some .local => true | _ => false) && (l1 == l2) && !(x == y) &&
    !([a, b].all (foldedForSure 8)) && !([a, b].all (constantsAlone 8))
def isStar : Expr → Bool
  | .Starred .. => true
  | _ => false
theorem star1 {a : Expr} (h : plainE a = true) : isStar a = false := by
  cases a <;> first | rfl | cases h
theorem par_sw {X : Cx} {g : Sg} (ok : SgOk X g) {x y : Str} {px py pt : Pos} {kt : Nat} {k2 : Nat} {pt2 : Pos} {a b : Expr} (h : parB g x y px.line py.line 0 a b = true) :
    swappedStores [.Tuple [.Name x px, .Name y py] kt pt] (.Tuple [a, b] k2 pt2) X.env = pure (some [x, y]) := by
  unfold parB at h
  simp only [Bool.and_eq_true, Bool.not_eq_true'] at h
  obtain ⟨⟨⟨⟨⟨⟨⟨h1, h2⟩, h3⟩, h4⟩, h5⟩, h6⟩, h7⟩, h8⟩ := h
  have hk : X.env.scope.kind = .function := by rw [ok.sc]; exact ok.kind
  have hb : X.env.blockKind = .function := by unfold PySem.Env.blockKind; rw [hk]; rfl
  have l1 : X.env.kindOf x = some .local := by
    show X.env.scope.names.lookup x = _
    rw [ok.sc]
    split at h3
    · assumption
    · cases h3
  have l2 : X.env.kindOf y = some .local := by
    show X.env.scope.names.lookup y = _
    rw [ok.sc]
    split at h4
    · assumption
    · cases h4
  have hl : py.line = px.line := by have := (beq_iff_eq (a := px.line) (b := py.line)).mp h5; exact this.symm
  have hs : ([a, b].any fun | .Starred .. => true | _ => false) = false := by
    show (isStar a || (isStar b || false)) = false
    rw [star1 h1, star1 h2]
    rfl
  have hxy : (y == x) = false := by
    cases q : (y == x) with
    | false => rfl
    | true => rw [beq_iff_eq] at q; subst q; rw [beq_self_eq_true] at h6; cases h6
  unfold swappedStores
  simp only [hb, l1, l2, hl, h7, h8, hs, List.filterMap_cons, List.filterMap_nil, List.length_cons, List.length_nil, List.head?_cons, Option.map_some, Option.getD_some, Expr.pos]
  simp [List.eraseDups_cons, hxy]
  intro q
  have s1 := star1 h1
  have s2 := star1 h2
  unfold isStar at s1 s2
  rcases q with q | q
  · have : isStar a = true := q
    rw [star1 h1] at this; cases this
  · have : isStar b = true := q
    rw [star1 h2] at this; cases this
def sPair : SR := fun r g st => match st with
  | .Assign [.Tuple [.Name x px, .Name y py] _ _] (.Tuple [a, b] _ _) _ => if parB g x y px.line py.line 0 a b = true then match slotOf g x, slotOf g y, r.v g a, r.v g b with
    | some i, some j, some c, some d => if i = j then none else some (sPar i j (decide (i ∈ g.own)) (decide (j ∈ g.own)) c d)
    | _, _, _, _ => none else none
  | _ => none
theorem sPair_ok : SrOk sPair := by
  intro r R X g E st c ok hp h
  unfold sPair at h
  split at h
  · rename_i x px y py kt pt a b k2 pt2 pos
    split at h
    · rename_i hb
      split at h
      · rename_i i j c d h1 h2 h3 h4
        split at h
        · cases h
        · rename_i hij
          cases h
          have hb2 := hb
          unfold parB at hb2
          simp only [Bool.and_eq_true] at hb2
          obtain ⟨⟨⟨⟨⟨⟨⟨b1, b2⟩, b3⟩, b4⟩, _⟩, _⟩, _⟩, _⟩ := hb2
          obtain ⟨q1, _⟩ := slotOf_is h1
          obtain ⟨q2, _⟩ := slotOf_is h2
          have l1 : X.env.scope.names.lookup x = some .local := by
            rw [ok.sc]
            split at b3
            · assumption
            · cases b3
          have l2 : X.env.scope.names.lookup y = some .local := by
            rw [ok.sc]
            split at b4
            · assumption
            · cases b4
          exact rs_par _ _ ok.calm (by rw [ok.N]; exact ok.nd) (by rw [ok.N]; exact q1) (by rw [ok.N]; exact q2) hij l1 l2 (R.v ok h3) (R.v ok h4) (plain_star b1) (plain_star b2) (par_sw ok hb) rfl
      · cases h
    · cases h
  · cases h

/-! ### the reader -/
def minus (g : Sg) (is : List Nat) : Sg := { g with own := g.own.filter fun i => !is.contains i }
theorem minus_ok {X : Cx} {g : Sg} (ok : SgOk X g) (is : List Nat) : SgOk X (minus g is) := ⟨ok.N, ok.nd, ok.sc, ok.kind, ok.calm, ok.gd, ok.un, ok.st, ok.gl⟩
structure Rules where
  v : List VR
  i : List IR
  s : List SR
structure RulesOk (R : Rules) : Prop where
  v : ∀ f ∈ R.v, VrOk f
  i : ∀ f ∈ R.i, IrOk f
  s : ∀ f ∈ R.s, SrOk f
def sTry (R : Rules) (r : Rec) (g : Sg) (st : Stmt) : Option CS := R.s.findSome? fun f => f r g st
def frzAll (is : List Nat) (c : CS) : CS := is.foldr sFrz c
def sStep (R : Rules) (r : Rec) (g : Sg) (st : Stmt) : Option CS := match sTry R r g st with
  | some c => some c
  | none => match g.own.findSome? (fun i => (sTry R r (minus g [i]) st).map (sFrz i)) with
    | some c => some c
    | none => if g.own.isEmpty = true then none else (sTry R r (minus g g.own) st).map (frzAll g.own)
/-! ### a test may look at what is one's own -/
def frzE (ρ : Env) : List Nat → Env
  | [] => ρ
  | i :: is => match (frzE ρ is)[i]? with
    | some (.ow d _) => (frzE ρ is).set i (.sh d)
    | _ => frzE ρ is
theorem REnv.frzE {K : PySem.W.Frag} {B F0 F H : Hp} {σ : L2.St} {ρ : Env} (re : REnv K B F0 F H σ ρ) : ∀ is : List Nat, ∃ F2, REnv K B F0 F2 H σ (frzE ρ is)
  | [] => ⟨F, re⟩
  | i :: is => by
    obtain ⟨F2, re2⟩ := REnv.frzE re is
    unfold DL.frzE
    split
    · rename_i d z e
      exact re2.frz e
    · exact ⟨F2, re2⟩
def tLend (is : List Nat) (t : CT) : CT := fun ρ => t (frzE ρ is)
theorem rt_lend {X : Cx} {E : Xn → Prop} {e : Expr} {t : CT} (is : List Nat) (h : PT X e (rdT X.K E t)) : PT X e (rdT X.K E (tLend is t)) := h.imp fun σ H Q' ⟨B, F0, F, ρ, Q, re, h, k⟩ => by
  obtain ⟨F2, re2⟩ := re.frzE is
  exact ⟨B, F0, F2, _, Q, re2, h, fun b H' F' g q => k b H' F ⟨g.h, Same.refl F, re.fh.trans g.h, fun _ _ e => .inl e⟩ q⟩
def tStep (r : Rec) (g : Sg) (e : Expr) : Option CT := match tOf r g e with
  | some c => some c
  | none => if g.own.isEmpty = true then none else (tOf r (minus g g.own) e).map (tLend g.own)
theorem tStep_ok {r : Rec} (R : RecOk r) {X : Cx} {g : Sg} {E : Xn → Prop} (ok : SgOk X g) {e : Expr} {c : CT} (h : tStep r g e = some c) : PT X e (rdT X.K E c) := by
  unfold tStep at h
  split at h
  · rename_i q; cases h; exact tOf_ok R ok q
  · split at h
    · cases h
    · obtain ⟨c2, h2, rfl⟩ := map_some h
      exact rt_lend _ (tOf_ok R (minus_ok ok _) h2)
def stepR (R : Rules) (r : Rec) : Rec where
  v := fun g e => R.v.findSome? fun f => f r g e
  t := tStep r
  i := fun g tg e => R.i.findSome? fun f => f r g tg e
  s := sStep R r
def recN (R : Rules) : Nat → Rec
  | 0 => ⟨fun _ _ => none, fun _ _ => none, fun _ _ _ => none, fun _ _ => none⟩
  | n + 1 => stepR R (recN R n)
theorem frzAll_ok {X : Cx} {E : Xn → Prop} {st : Stmt} : ∀ (is : List Nat) {c : CS}, PS X st (rdS X.K E c) → PS X st (rdS X.K E (frzAll is c))
  | [], _, h => h
  | i :: is, _, h => rs_frz i (frzAll_ok is h)
theorem recN_ok {R : Rules} (O : RulesOk R) : ∀ n, RecOk (recN R n)
  | 0 => by
    refine ⟨fun {X g E e c} ok h => ?_, fun {X g E e c} ok h => ?_, fun {X g E tg e c} ok h => ?_, fun {X g E st c} ok hp h => ?_⟩
    · exact absurd (show (none : Option CV) = some c from h) (by simp)
    · exact absurd (show (none : Option CT) = some c from h) (by simp)
    · exact absurd (show (none : Option CI) = some c from h) (by simp)
    · exact absurd (show (none : Option CS) = some c from h) (by simp)
  | n + 1 => by
    have ih := recN_ok O n
    have tr : ∀ {X : Cx} {g : Sg} {E : Xn → Prop} {st : Stmt} {c : CS}, SgOk X g → PassesOwn (model X.prog X.w) X.A X.env X.xe → sTry R (recN R n) g st = some c → PS X st (rdS X.K E c) := by
      intro X g E st c ok hp h
      obtain ⟨f, hf, h1⟩ := List.exists_of_findSome?_eq_some h
      exact O.s f hf ih ok hp h1
    refine ⟨fun {X g E e c} ok h => ?_, fun {X g E e c} ok h => tStep_ok ih ok h, fun {X g E tg e c} ok h => ?_, fun {X g E st c} ok hp h => ?_⟩
    · obtain ⟨f, hf, h1⟩ := List.exists_of_findSome?_eq_some h
      exact O.v f hf ih ok h1
    · obtain ⟨f, hf, h1⟩ := List.exists_of_findSome?_eq_some h
      exact O.i f hf ih ok h1
    · have h : sStep R (recN R n) g st = some c := h
      unfold sStep at h
      split at h
      · rename_i q; cases h; exact tr ok hp q
      · split at h
        · rename_i q
          cases h
          obtain ⟨i, hi, h1⟩ := List.exists_of_findSome?_eq_some q
          obtain ⟨c2, h2, rfl⟩ := map_some h1
          exact rs_frz i (tr (minus_ok ok _) hp h2)
        · split at h
          · cases h
          · obtain ⟨c2, h2, rfl⟩ := map_some h
            exact frzAll_ok _ (tr (minus_ok ok _) hp h2)
end DL

namespace DL
open PySem L2

/-! ### defs -/
def GvB (P : Program) (w : World) (K : PySem.W.Frag) (mg : Str → Option Value) (base : Heap) (k : Nat) (x : Str) : GV → Prop
  | .fn n m kw => ∃ (j : Nat) (f : Addr) (fd : FuncData) (ps : List Str), j ≤ k ∧ FnG P w K mg base CX0 j f fd ps (SpM K ps.length m) ∧ mg x = some (.ref f) ∧ PySem.W.keepIn K (.ref f) = true ∧ Binds K fd ps [] ∧ ps.length = n ∧
      ∀ z ∈ kw, KwOk K fd ps z.1 z.2.1 z.2.2
  | .fo n m kw => ∃ (j : Nat) (f : Addr) (fd : FuncData) (ps : List Str), j ≤ k ∧ FnG P w K mg base CX0 j f fd ps (SpF true K ps.length m) ∧ mg x = some (.ref f) ∧ PySem.W.keepIn K (.ref f) = true ∧ Binds K fd ps [] ∧ ps.length = n ∧
      ∀ z ∈ kw, KwOk K fd ps z.1 z.2.1 z.2.2
  | .cv d => ∃ (v : V) (u : Value), mg x = some u ∧ RelV v u ∧ ∀ F, Rep K F v d
  | .bi id m => mg x = none ∧ bootBuiltins x = some (.builtin id) ∧ x ≠ "__name__" ∧ ∀ Y : Cx, Y.calm = true → Y.A.guards = some [] → Y.A.units + 110 < cLine → CallR Y (.builtin id) (rcM Y.K m)
  | .ty T m => mg x = none ∧ bootBuiltins x = some (.type T) ∧ x ≠ "__name__" ∧ ∀ Y : Cx, Y.calm = true → Y.A.guards = some [] → Y.A.units + 110 < cLine → CallR Y (.type T) (rcM Y.K m)
  | .sp => mg x = none
def GlB (P : Program) (w : World) (K : PySem.W.Frag) (mg : Str → Option Value) (base : Heap) (k : Nat) (gl : List (Str × GV)) : Prop := ∀ p ∈ gl, GvB P w K mg base k p.1 p.2
section
variable {P : Program} {w : World} {K : PySem.W.Frag} {mg : Str → Option Value} {base : Heap} {k : Nat} {gl : List (Str × GV)}
theorem GvB.mono {x : Str} {v : GV} {j : Nat} (h : GvB P w K mg base j x v) (hj : j ≤ k) : GvB P w K mg base k x v := by
  cases v with
  | fn n m kw => obtain ⟨i, f, fd, ps, h1, h2⟩ := h; exact ⟨i, f, fd, ps, Nat.le_trans h1 hj, h2⟩
  | fo n m kw => obtain ⟨i, f, fd, ps, h1, h2⟩ := h; exact ⟨i, f, fd, ps, Nat.le_trans h1 hj, h2⟩
  | _ => exact h
theorem GlB.nil : GlB P w K mg base k [] := fun p hp => by cases hp
theorem GlB.cons {x : Str} {v : GV} {j : Nat} (hv : GvB P w K mg base k x v) (h : GlB P w K mg base j gl) (hj : j ≤ k) : GlB P w K mg base k ((x, v) :: gl) := fun p hp => by
  rcases List.mem_cons.mp hp with rfl | hp
  · exact hv
  · exact (h p hp).mono hj
theorem GlB.mono {j : Nat} (h : GlB P w K mg base j gl) (hj : j ≤ k) : GlB P w K mg base k gl := fun p hp => (h p hp).mono hj
theorem mem_of_look {x : Str} {v : GV} : ∀ {gl : List (Str × GV)}, gl.lookup x = some v → (x, v) ∈ gl
  | (y, u) :: gl, h => by
    rw [List.lookup_cons] at h
    split at h
    · rename_i q
      cases h
      rw [beq_iff_eq] at q
      subst q
      exact List.mem_cons_self
    · exact List.mem_cons_of_mem _ (mem_of_look h)
def stsOf (sc : Scope) : List Str := (sc.names.map (·.1)).filter fun x => match sc.names.lookup x with | some .local => true | some .cell => true | _ => false
def mkSg (N : List Str) (sc : Scope) (gl : List (Str × GV)) (own : List Nat) (ro : Bool := false) : Sg := ⟨N, sc, stsOf sc, gl, own, ro⟩
def startE (N : List Str) (ds : List D) : Env := ds.map .sh ++ List.replicate (N.length - ds.length) .no
theorem start_env {F H : Hp} {N : List Str} {vs : List V} {ds : List D} (s : Same F H) (r : RepL K F vs ds) : REnv K H F F H (L2.start N vs) (startE N ds) where
  bh := Same.refl H
  f0 := Same.refl F
  fh := s
  fr := fun _ _ e => .inl e
  len := by unfold L2.start startE; rw [List.length_append, List.length_append, List.length_map, List.length_map, List.length_replicate, List.length_replicate, r.length]
  cell := fun i c e => by
    unfold startE at e
    unfold L2.start
    by_cases hi : i < ds.length
    · rw [List.getElem?_append_left (by simpa using hi), List.getElem?_map] at e
      obtain ⟨d, hd⟩ : ∃ d, ds[i]? = some d := ⟨_, List.getElem?_eq_getElem hi⟩
      rw [hd] at e
      cases e
      obtain ⟨v, h1, h2⟩ := r.get hd
      refine ⟨some v, ?_, v, rfl, h2⟩
      rw [List.getElem?_append_left (by rw [List.length_map, r.length]; exact hi), List.getElem?_map, h1]
      rfl
    · have hi' : ds.length ≤ i := Nat.le_of_not_lt hi
      rw [List.getElem?_append_right (by simpa using hi'), List.length_map] at e
      rw [List.getElem?_append_right (by rw [List.length_map, r.length]; exact hi'), List.length_map, r.length]
      rw [List.getElem?_replicate] at e ⊢
      split at e
      · rename_i q
        cases e
        exact ⟨none, by rw [if_pos q], trivial⟩
      · cases e
  dis := fun i j d e z y p _ h1 _ => by
    exfalso
    unfold startE at h1
    have hm := List.mem_of_getElem? h1
    rw [List.mem_append] at hm
    rcases hm with hm | hm
    · obtain ⟨d, _, q⟩ := List.mem_map.mp hm; cases q
    · have := List.eq_of_mem_replicate hm; cases this
theorem cx_ok {n : Nat} {qual : Str} {sc : Scope} {f : Addr} {N ps : List Str} {own : List Nat} {ro : Bool} {cdv : Value} {A : Around} {outer : List PySem.Env} {s : Shared} {H : Hp} {E : XK} (S : FnScope N ps sc) (hg : GlB P w K mg base k gl)
    (hr : Room k (A.deeper (PyProof.Rows.envOfC qual sc s.heap.objs.size f cdv))) (gd : A.guards = some []) : SgOk (cxOf CX0 P w K mg base N qual sc f cdv A outer s H E) (mkSg N sc gl own ro) := by
  refine ⟨rfl, S.nd, rfl, S.kind, rfl, gd, ?_, fun x hx => ?_, fun x v hx => ?_⟩
  · have := hr.un
    refine Nat.lt_of_le_of_lt ?_ this
    show (A.deeper _).units + 110 ≤ _
    omega
  · refine ⟨?_, .inl rfl⟩
    have hx : x ∈ stsOf sc := hx
    unfold stsOf at hx
    have := (List.mem_filter.mp hx).2
    split at this
    · rename_i q; exact .inl q
    · rename_i q; exact .inr q
    · cases this
  · have hx : gl.lookup x = some v := hx
    have q := hg _ (mem_of_look hx)
    cases v with
    | fn n m kw =>
      obtain ⟨j, f', fd', ps', hj, h1, h2⟩ := q
      exact ⟨j, f', fd', ps', h1, hr.mono hj, h2⟩
    | fo n m kw =>
      obtain ⟨j, f', fd', ps', hj, h1, h2⟩ := q
      exact ⟨j, f', fd', ps', h1, hr.mono hj, h2⟩
    | cv d => exact q
    | bi id m => exact q
    | ty T m => exact q
    | sp => exact q
theorem def_ok {R : Rules} (O : RulesOk R) {n : Nat} {x qual : Str} {st : Stmt} {f : Addr} {fd : FuncData} {N ps : List Str} {own : List Nat} {c : CS} {m : List D → M D} (F : Fun K x qual st f fd) (S : FnScope N ps (defScope st)) (hg : GlB P w K mg base k gl)
    (he : ssOf (recN R n) (mkSg N (defScope st) gl own) (defBody st) = some c) (hm : ∀ ds QD ED, m ds QD ED → c (startE N ds) { nx := fun _ => QD .non, rt := fun d _ => QD d } ED) : FnG P w K mg base CX0 (k + 1) f fd ps (SpM K ps.length m) := by
  refine Fun.okG F S (fun vs H Q E h => h.1) (fun cdv A outer s H vs Q E hr gd h => ?_)
  obtain ⟨hn, F0, ds, QD, ED, sm, r, hq, kq⟩ := h
  refine ⟨rdS K ED c, ssOf_ok (recN_ok O n) (g := mkSg N (defScope st) gl own) (cx_ok (n := n) S hg hr gd) PassesOwn.leaving he, H, F0, F0, startE N ds, _, start_env sm r, hm ds QD ED hq, ?_⟩
  exact ⟨fun σ' H' F' ρ' re q => kq .non H' F' .non re.gr0 (Val.of .non) q, fun v σ' H' F' ρ' d re rp q => kq v H' F' d re.gr0 (Val.of rp) q, fun σ' H' F' ρ' re q => (show False from q).elim, fun σ' H' F' ρ' re q => (show False from q).elim, fun _ _ _ _ _ _ _ _ _ _ q => (show False from q).elim⟩
/-- a def that gives out what is its own -/
theorem def_okO {R : Rules} (O : RulesOk R) {n : Nat} {x qual : Str} {st : Stmt} {f : Addr} {fd : FuncData} {N ps : List Str} {own : List Nat} {c : CS} {m : List D → M D} (F : Fun K x qual st f fd) (S : FnScope N ps (defScope st)) (hg : GlB P w K mg base k gl)
    (he : ssOf (recN R n) (mkSg N (defScope st) gl own true) (defBody st) = some c) (hm : ∀ ds QD ED, m ds QD ED → c (startE N ds) { nx := fun _ => False, rt := fun _ _ => False, ro := fun d _ => QD d } ED) : FnG P w K mg base CX0 (k + 1) f fd ps (SpF true K ps.length m) := by
  refine Fun.okG F S (fun vs H Q E h => h.1) (fun cdv A outer s H vs Q E hr gd h => ?_)
  obtain ⟨hn, F0, ds, QD, ED, sm, r, hq, kq⟩ := h
  refine ⟨rdS K ED c, ssOf_ok (recN_ok O n) (g := mkSg N (defScope st) gl own true) (cx_ok (n := n) S hg hr gd) PassesOwn.leaving he, H, F0, F0, startE N ds, _, start_env sm r, hm ds QD ED hq, ?_⟩
  exact ⟨fun σ' H' F' ρ' re q => (show False from q).elim, fun v σ' H' F' ρ' d re rp q => (show False from q).elim, fun σ' H' F' ρ' re q => (show False from q).elim, fun σ' H' F' ρ' re q => (show False from q).elim,
    fun p σ' H' F' ρ' d re h1 h2 h3 q => kq (.ref p) H' F' d re.gr0 (Val.own h1 h2 h3) q⟩
/-- a def's keywords -/
theorem Fun.kw {x qual : Str} {st : Stmt} {f : Addr} {fd : FuncData} {ps ks : List Str} {n : Nat} {is : List Nat} (F : Fun K x qual st f fd)
    (h : ∀ (kV doc pm : Value) (an : Option Addr) (cdv ct : Value) (us ws : List Value), us.length = n → ws.length = ks.length → bindArgs (PySem.W.fnOf x qual (defArgs st) (defBody st) (defScope st) .none kV doc pm an cdv ct) ⟨us, ks.zip ws⟩ = pure (ps.zip (pick is (us ++ ws)))) : KwOk K fd ps n ks is := by
  obtain ⟨oc, od, kV, doc, pm, an, cdv, ct, osl, rfl, lk, hcd⟩ := F.ex
  exact ⟨fun s us ws _ hu hw => .of_eq (h kV doc pm an cdv ct us ws hu hw)⟩
theorem GvB.fun {x : Str} {st : Stmt} {f : Addr} {fd : FuncData} {ps : List Str} {m : List D → M D} {kw : List (Nat × List Str × List Nat)} {n : Nat} (F : Fun K x x st f fd) (hx : mg x = some (.ref f)) (b : Binds K fd ps []) (h : FnG P w K mg base CX0 k f fd ps (SpM K ps.length m)) (hn : ps.length = n)
    (hk : ∀ z ∈ kw, KwOk K fd ps z.1 z.2.1 z.2.2) : GvB P w K mg base k x (.fn n m kw) := ⟨k, f, fd, ps, Nat.le_refl _, h, hx, F.kp, b, hn, hk⟩
theorem GvB.funO {x : Str} {st : Stmt} {f : Addr} {fd : FuncData} {ps : List Str} {m : List D → M D} {kw : List (Nat × List Str × List Nat)} {n : Nat} (F : Fun K x x st f fd) (hx : mg x = some (.ref f)) (b : Binds K fd ps []) (h : FnG P w K mg base CX0 k f fd ps (SpF true K ps.length m)) (hn : ps.length = n)
    (hk : ∀ z ∈ kw, KwOk K fd ps z.1 z.2.1 z.2.2) : GvB P w K mg base k x (.fo n m kw) := ⟨k, f, fd, ps, Nat.le_refl _, h, hx, F.kp, b, hn, hk⟩
end
end DL


/-! ### enumerate(v), v anything that begins and draws -/
namespace PySem
open Sem (wp)
theorem enum_new1 {v : Value} {o : Obj} {H : Heap → Prop} (B : Begins v o H) :
    Meets (Builtin.«enumerate.__new__» ⟨[.type "enumerate", v], []⟩) (fun _ R s => H s.heap ∧
      R (.ok (.ret (.ref (s.heap.push o).objs.size))) { s with heap := (s.heap.push o).push { cls := .type "enumerate", data := .fields #[.none, .bool false, .ref s.heap.objs.size, rawInt 0, .none, .none] } }) :=
  .of_wp fun prog w A R s h => by
    obtain ⟨hp, gn, dr, tk, os⟩ := s
    obtain ⟨hst, hr⟩ := h
    have h_sub := sub_enumerate
    have step : ∀ {A' : Around} {E : Value → Shared → Prop} {Q : Value → Shared → Prop}, Q (.ref hp.objs.size) ⟨hp.push o, gn, dr, tk, os⟩ → wpAny (model prog w) A' (pyIter v) Q E ⟨hp, gn, dr, tk, os⟩ :=
      fun q => B.iter prog w _ _ ⟨hp, gn, dr, tk, os⟩ _ hst q
    wp_walk using step
    refine wpAny_stack_any fun _ => wpAny_pure ?_
    split
    · rename_i c _ _ _ _ _
      cases (c == Value.type "enumerate") <;> (wp_walk using step; exact ⟨_, rfl, hr⟩)
    · wp_walk using step
      exact ⟨_, rfl, hr⟩
theorem enum_call1 {prog : Program} {w : World} {A : Around} {E : Value → Shared → Prop} {s : Shared} {v : Value} {o : Obj} {H : Heap → Prop} {Q : Value → Shared → Prop} (B : Begins v o H) (hst : H s.heap)
    (k : ∀ h', IsEnum h' (s.heap.objs.size + 1) s.heap.objs.size 0 .none → h'.get? s.heap.objs.size = some o → (∀ b ob, s.heap.get? b = some ob → h'.get? b = some ob) → Q (.ref (s.heap.objs.size + 1)) { s with heap := h' }) :
    wpAny (model prog w) A (call (.type "enumerate") [v]) Q E s := by
  refine callType_new F.called_enumerate (by decide) (F.typeCall_enumerate_1 _) (F.newCall_enumerate_1 _) (fun obj => F.args_object_init_2 obj _) F.entry_enumerate_new (enum_new1 B) ⟨hst, ?_⟩
  have size1 : (s.heap.push o).objs.size = s.heap.objs.size + 1 := Heap.size_push ..
  show _ ∧ _
  rw [size1]
  have there : IsEnum ((s.heap.push o).push { cls := .type "enumerate", data := .fields #[.none, .bool false, .ref s.heap.objs.size, rawInt 0, .none, .none] }) (s.heap.objs.size + 1) s.heap.objs.size 0 .none := by
    have got := Heap.get?_push_size (s.heap.push o) (o := { cls := .type "enumerate", data := .fields #[.none, .bool false, .ref s.heap.objs.size, rawInt 0, .none, .none] }) rfl
    rw [size1] at got
    exact got
  exact ⟨⟨_, there, rfl⟩, k _ there (Heap.get?_push_of_some _ (Heap.get?_push_size _ B.free)) fun b ob e => Heap.get?_push_of_some _ (Heap.get?_push_of_some _ e)⟩
end PySem

namespace DL
open PySem L2
/-- the tuple at a, each item in a new pair -/
def ItTe (K : PySem.W.Frag) (a : Addr) : It :=
  ⟨fun i H => ∃ (xs : List V) (x : V), SqT K H a xs ∧ xs[i]? = some x, fun i H v H' => ∃ T x, v = .ref T ∧ H T = none ∧ H' = upd H T (.tup [.int (i : Nat), x]) ∧ ∀ xs, SqT K H a xs → xs[i]? = some x, fun i H => ∃ xs : List V, SqT K H a xs ∧ xs.length = i⟩
theorem turn_enumT {P : Program} {w : World} {K : PySem.W.Frag} {elts : List Expr} {kk : Nat} {tpos : Pos} (a e it : Addr) :
    Turn P w K (.Tuple elts kk tpos) (ItTe K a) [e, it] e (fun i h => (∃ old, IsEnum h e it ((i : Nat) : Int) old) ∧ h.IsTupleIter it a i ∧ e ≠ it) where
  mem := by simp
  obj := fun i h st b hb => by
    obtain ⟨⟨old, he⟩, ⟨o, ho, hc, hd⟩, _⟩ := st
    have hb' : b = e ∨ b = it := by simpa using hb
    rcases hb' with rfl | rfl
    · exact ⟨_, he, fun v q => nomatch q⟩
    · exact ⟨o, ho, fun v q => by rw [hd] at q; cases q⟩
  keep := fun i h h' st k => let ⟨⟨old, he⟩, hi, hne⟩ := st; ⟨⟨old, k e (by simp) _ he⟩, hi.at fun o q => k it (by simp) o q, hne⟩
  item := by
    intro X hP hw hK hc i pins s σ H E I hf st hg
    subst hP hw hK
    obtain ⟨⟨old, he⟩, hit, hne⟩ := st
    obtain ⟨xs, x, hq, hx⟩ := hg
    obtain ⟨its, rv, p, hz⟩ := I.tuple hq
    obtain ⟨u, hu, ru⟩ := rv.get hx
    have p' : s.heap.IsTuple a its.toArray := p
    have hel : e < s.heap.objs.size := Heap.lt_size he
    have hil : it < s.heap.objs.size := by obtain ⟨_, q, _⟩ := hit; exact Heap.lt_size q
    have hea : e ≠ a := fun z => by
      obtain ⟨o, h1, h2, _⟩ := p'
      rw [← z, he] at h1
      cases h1
      simp at h2
    have hia : a ≠ it := fun z => by
      obtain ⟨o, h1, h2, _⟩ := p'
      obtain ⟨o', h3, h4, _⟩ := hit
      rw [z, h3] at h1
      cases h1
      rw [h4] at h2
      simp at h2
    have hlt : i < its.toArray.size := by
      have := lt_of_at hu
      simpa using this
    refine wpAny_pyNext_enum_itemD (Draws.tuple (A := X.A.in1) (I.ok.hd hc) it a hia its.toArray) he ⟨hit, p'⟩ hlt hne (by simp [hne, hea]) fun y h' tk hy ho hst hT hsz hk => ?_
    have ey : y = u := by
      have q1 : its[i]? = some y := by simpa using hy
      rw [hu] at q1
      exact (Option.some.inj q1).symm
    subst ey
    refine ⟨_, rfl, wpAny_letOwnedTupleGo_enum (s := { s with heap := h', toks := tk + 1 }) ho fun h'' he' sb => ?_⟩
    have hT2 : h''.get? s.heap.objs.size = some { cls := .type "tuple", data := .seq #[.int i tk, y] } := (sb.2 _ (Nat.ne_of_gt hel)).trans hT
    have new : ObjOk X.prog X.w (upd H s.heap.objs.size (.tup [.int (i : Nat), x])) h'' s.heap.objs.size (.tup [.int (i : Nat), x]) :=
      ⟨by show 2 ≤ sizeLine; decide, [.int i tk, y], .cons ⟨_, rfl⟩ (.cons ru .nil), ⟨_, hT2, rfl, _, rfl⟩⟩
    have I1 : Inv X pins σ (upd H s.heap.objs.size (.tup [.int (i : Nat), x])) { s with heap := h'', toks := tk + 1 } :=
      I.turnedNew (ch := [e, it]) (fun b ob hb q => (sb.2 b (fun z => hb (by simp [z]))).trans (hk b ob (fun z => hb (by simp [z])) (fun z => hb (by simp [z])) q)) hf (Nat.le_refl _) new
    refine ⟨.ref s.heap.objs.size, _, I1, rfl, ⟨_, x, rfl, I.hok.fresh (Nat.le_refl _), rfl, fun ys hy => by rw [I.tuple_inj hy hq]; exact hx⟩, ⟨⟨y, ?_⟩, hst.1.at fun o q => (sb.2 it (Ne.symm hne)).trans q, hne⟩, fun b hb => ?_⟩
    · have e1 : ((i + 1 : Nat) : Int) = (i : Int) + 1 := by omega
      rw [e1]; exact he'
    · have hb' : b < s.heap.objs.size := by
        have hb2 : b = e ∨ b = it := by simpa using hb
        rcases hb2 with rfl | rfl
        · exact hel
        · exact hil
      rw [upd_ne (Nat.ne_of_lt hb')]
      exact (hf b hb).1
  done := by
    intro X hP hw hK hc i pins s σ H E I hf st hg
    subst hP hw hK
    obtain ⟨⟨old, he⟩, hit, hne⟩ := st
    obtain ⟨xs, hq, hx⟩ := hg
    obtain ⟨its, rv, p, hz⟩ := I.tuple hq
    have p' : s.heap.IsTuple a its.toArray := p
    obtain ⟨f0, f1, f2, f3, f4, f5⟩ := hf it (by simp)
    have hl := rv.length
    have hia : a ≠ it := fun z => by
      obtain ⟨o, h1, h2, _⟩ := p'
      obtain ⟨o', h3, h4, _⟩ := hit
      rw [z, h3] at h1
      cases h1
      rw [h4] at h2
      simp at h2
    have hi : i = its.toArray.size := by rw [List.size_toArray]; omega
    exact wpAny_pyNext_enum_endD (Draws.tuple (A := X.A.in1) (I.ok.hd hc) it a hia its.toArray) he ⟨hi ▸ hit, p'⟩ fun h' eb => ⟨rfl, I.turned (t' := s.toks) (fun b o hb q => eb b o hb q) f0 f1 f3 f4 f5⟩
  self := fun A i s Q E st h => let ⟨⟨_, he⟩, _⟩ := st; wpAny_pyIter_enum he h
theorem walk_enumT {K : PySem.W.Frag} {a : Addr} {xs : List V} : Walk (ItTe K a) xs.length (fun H => SqT K H a xs) (YPair (fun i => some (.int (i : Nat))) (fun i => xs[i]?)) := by
  refine ⟨fun i _ hi q => ⟨xs, xs[i], q, by simp [hi]⟩, fun _ q => ⟨xs, q, rfl⟩, fun i H v H' _ q y => ?_⟩
  obtain ⟨T, x, h1, h2, h3, h4⟩ := y
  exact ⟨T, .int (i : Nat), x, h1, h2, h3, rfl, h4 xs q⟩
def enumM : List D → M (List D)
  | [.lst ds] => ret (enumD ds)
  | [.tup ds] => ret (enumD ds)
  | _ => fail
def iEn (l : CL) : CI := fun ρ => bnd (l ρ) enumM
theorem enum_pair {K : PySem.W.Frag} {F : Hp} {xs : List V} {ds : List D} (r : RepL K F xs ds) : ∀ i d, (enumD ds)[i]? = some d → ∃ a b, d = .tup [a, b] ∧ (∀ x, (fun i : Nat => some (V.int (i : Nat))) i = some x → Rep K F x a) ∧ ∀ x, (fun i : Nat => xs[i]?) i = some x → Rep K F x b := by
  intro i d e
  obtain ⟨a, b, rfl, h1, h2⟩ := pairs_at e
  refine ⟨a, b, rfl, fun x hx => ?_, fun x hx => ?_⟩
  · cases hx
    rw [upto_at h1]
    have : (0 : Int) + (i : Nat) * 1 = (i : Nat) := by omega
    rw [this]
    exact .int _
  · obtain ⟨v, q1, q2⟩ := r.get h2
    have hx : xs[i]? = some x := hx
    rw [q1] at hx
    cases hx
    exact q2
section
variable {X : Cx} {E : Xn → Prop} {e : Expr} {cl : CL} {p pos tpos : Pos} {elts : List Expr} {kk : Nat}
open PySem.Spec PyProof.Rows in
theorem ri_enum (hg : Gl X "enumerate") (hm : X.mg "enumerate" = none) (ha : PA X [e] (rdL X.K E 1 cl)) (hs : starEach [e] X.env = [(false, eval e X.env)]) : PI X (.Tuple elts kk tpos) (.Call (.Name "enumerate" p) [e] [] pos) (rdI X.K E (iEn cl)) := by
  refine ⟨fun pins s σ H R I ⟨B, F0, F, ρ, Q, re, h, k⟩ => ?_⟩
  refine Call_ (ld_blt I hg hm boot_enumerate (PyProof.Rows.callWith_type1 (thn (ha.run pos pins s σ H (fun vs H1 => ∃ F1 ds, Grow F H F1 H1 ∧ RepL X.K F1 vs ds ∧ vs.length = 1 ∧ enumM ds Q E) I
    ⟨B, F0, F, ρ, _, re, h, fun vs H1 F1 ds g1 r1 hn q => ⟨F1, ds, g1, r1, hn, q⟩⟩) ?_) hs rfl))
  rintro us s1 ⟨vs, H1, I1, r1, F1, ds, g1, rl, hn, q⟩
  obtain ⟨v, rfl⟩ := len1 hn
  obtain ⟨d, rfl, rp⟩ := rl.one
  obtain ⟨u, rfl, r⟩ := Vals.one r1
  have fin : ∀ (o : Obj) (J : It) (tn : Nat → Heap → Prop) (h' : Heap) (ds : List D), (∀ b ob, s1.heap.get? b = some ob → h'.get? b = some ob) → IsEnum h' (s1.heap.objs.size + 1) s1.heap.objs.size 0 .none →
      Turn X.prog X.w X.K (.Tuple elts kk tpos) J [s1.heap.objs.size + 1, s1.heap.objs.size] (s1.heap.objs.size + 1) tn → tn 0 h' → ItOk X.K F1 J ds → Q ds →
      wpAny (model X.prog X.w) X.A (pyIter (.ref (s1.heap.objs.size + 1))) (PIE X pins σ (.Tuple elts kk tpos) R) X.xe { s1 with heap := h' } := fun o J tn h' ds hk he T st io q => by
    refine wpAny_pyIter_enum he ?_
    have I2 : Inv X pins σ H1 { s1 with heap := h' } := I1.kept (t' := s1.toks) hk
    refine ⟨_, _, tn, J, H1, rfl, I2, T, st, fun b hb => ?_, k J H1 F1 ds g1 io q⟩
    have hb' : b = s1.heap.objs.size + 1 ∨ b = s1.heap.objs.size := by simpa using hb
    have hle : s1.heap.objs.size ≤ b := by
      rcases hb' with rfl | rfl
      · exact Nat.le_succ _
      · exact Nat.le_refl _
    exact I1.fpOk hle (I1.hok.fresh hle)
  cases rp with
  | @lst la lxs lds h1 rl2 =>
    cases r
    obtain ⟨its, rv, pp, hz⟩ := I1.list (SqL.of (g1.fh _ _ h1))
    refine enum_call1 (begins_list la its.toArray) pp.isList fun h' he ho hk => ?_
    exact fin { cls := .type "list_iterator", data := .fields #[.ref la, .int 0 0] } _ _ h' _ hk he (turn_enum la _ _) ⟨⟨.none, he⟩, ⟨_, ho, rfl, rfl⟩, Nat.succ_ne_self _⟩
      (ItOk.of_pair (G := fun H => SqL X.K H la lxs) (by rw [enumD_len, ← rl2.length]; exact walk_enum) (fun H s => sqL_same s h1) (enum_pair rl2)) q
  | @tup la lxs lds h1 rl2 =>
    cases r
    obtain ⟨its, rv, pp, hz⟩ := I1.tuple (sqT_same g1.fh h1)
    refine enum_call1 (begins_tuple la its.toArray) (show s1.heap.IsTuple la its.toArray from pp) fun h' he ho hk => ?_
    exact fin { cls := .type "tuple_iterator", data := .fields #[.ref la, .int 0 0] } _ _ h' _ hk he (turn_enumT la _ _) ⟨⟨.none, he⟩, ⟨_, ho, rfl, rfl⟩, Nat.succ_ne_self _⟩
      (ItOk.of_pair (G := fun H => SqT X.K H la lxs) (by rw [enumD_len, ← rl2.length]; exact walk_enumT) (fun H s => sqT_same s h1) (enum_pair rl2)) q
  | _ => exact (show False from q).elim
end
def iEnum : IR := fun r g tg e => match tg, e with
  | .Tuple _ _ _, .Call (.Name x _) [a] [] _ => if spB g x "enumerate" = true then (lOf r g [a]).map iEn else none
  | _, _ => none
theorem iEnum_ok : IrOk iEnum := by
  intro r R X g E tg e c ok h
  unfold iEnum at h
  split at h
  · split at h
    · rename_i hs
      obtain ⟨rfl, q1, q2⟩ := spB_is ok hs
      obtain ⟨l, h1, rfl⟩ := map_some h
      obtain ⟨h2, h3⟩ := lOf_ok (E := E) R ok h1
      rw [List.all_cons, Bool.and_eq_true] at h3
      exact ri_enum q1 q2 h2 (plain_star h3.1)
    · cases h
  · cases h
end DL

namespace DL
open PySem L2

/-! ### isinstance -/
inductive TyN where
  | non | bl | int | str | lst | tup | dct
  deriving DecidableEq
def TyN.s : TyN → String
  | .non => "NoneType"
  | .bl => "bool"
  | .int => "int"
  | .str => "str"
  | .lst => "list"
  | .tup => "tuple"
  | .dct => "dict"
def tyN : D → Option TyN
  | .non => some .non
  | .bl _ => some .bl
  | .int _ => some .int
  | .str _ => some .str
  | .lst _ => some .lst
  | .tup _ => some .tup
  | .dct _ => some .dct
  | _ => none
def clsN (T : String) : Option TyN := if T = "bool" then some .bl else if T = "int" then some .int else if T = "str" then some .str else if T = "list" then some .lst else if T = "tuple" then some .tup else if T = "dict" then some .dct else none
theorem clsN_is {T : String} {t : TyN} (h : clsN T = some t) : t.s = T := by
  unfold clsN at h
  split at h
  · cases h; subst T; rfl
  split at h
  · cases h; subst T; rfl
  split at h
  · cases h; subst T; rfl
  split at h
  · cases h; subst T; rfl
  split at h
  · cases h; subst T; rfl
  split at h
  · cases h; subst T; rfl
  cases h
def subN : TyN → TyN → Bool
  | .bl, .bl => true
  | .bl, .int => true
  | .int, .int => true
  | .str, .str => true
  | .lst, .lst => true
  | .tup, .tup => true
  | .dct, .dct => true
  | .non, .non => true
  | _, _ => false
theorem kit_sub (t T : TyN) : kitB t.s T.s = some (subN t T) := by cases t <;> cases T <;> decide +kernel
theorem kit_any {K : PySem.W.Frag} (t : TyN) : ∀ Ts : List TyN, PySem.W.kitAny K (.type t.s) (Ts.map fun T => .type T.s) = some (Ts.any (subN t))
  | [] => rfl
  | T :: Ts => by
    rw [List.map_cons, List.any_cons]
    refine kitAny_cons (kit_ty (kit_sub t T)) (fun e => ?_) fun e => ?_
    · rw [e, Bool.false_or]; exact kit_any t Ts
    · rw [e, Bool.true_or]
def isiM (Ts : List TyN) (d : D) : M (D × Bool) := match tyN d with
  | some t => ret (.bl (Ts.any (subN t)), false)
  | none => fail
def cIsi (a : CB) (Ts : List TyN) : CV := fun ρ => bnd (a ρ) (isiM Ts)
theorem tyX_of {K : PySem.W.Frag} {F H : Hp} {v : V} {d : D} {t : TyN} (s : Same F H) (b : Bor K F H v d) (h : tyN d = some t) : TyX K H v (.type t.s) := by
  cases d with
  | non => cases h; cases b.non; exact .base .non
  | bl x => cases h; cases b.bl; exact .base (.bl x)
  | int x => cases h; cases b.int; exact .base (.int x)
  | str x => cases h; cases b.str; exact .base (.str x)
  | lst ds => cases h; obtain ⟨a, vs, rfl, h, _⟩ := b.lst s; exact .base (.lst h)
  | tup ds =>
    cases h
    obtain ⟨a, vs, rfl, h, _⟩ := b.tup s
    rcases h with (h | ⟨o, h⟩) | ⟨o, its, n, h1, h2, _⟩
    · exact .base (.tup h)
    · exact .fTuple h
    · exact .kTuple h1 h2
  | dct kvs =>
    cases h
    rcases b with b | ⟨p, rfl, ks, h, r⟩
    · cases b with
      | dct h r => exact .base (.dK (s _ _ h))
    · exact .base (.dK h)
  | _ => cases h
def tyG (g : Sg) (x : Str) : Option TyN := if globB g x = true then match g.gl.lookup x with
  | some (.ty T _) => clsN T
  | _ => none else none
def tysG (g : Sg) : List Expr → Option (List TyN)
  | [] => some []
  | .Name x _ :: es => match tyG g x, tysG g es with
    | some t, some ts => some (t :: ts)
    | _, _ => none
  | _ :: _ => none
section
variable {X : Cx} {g : Sg} {E : Xn → Prop}
theorem tyG_ok (ok : SgOk X g) {x : Str} {t : TyN} {p : Pos} (h : tyG g x = some t) : PE X (.Name x p) (tC (.ty t.s)) := by
  unfold tyG at h
  split at h
  · rename_i hg
    obtain ⟨q1, q2⟩ := globB_is ok hg
    split at h
    · rename_i T m hl
      obtain ⟨hm, hv, hn, _⟩ := ok.gl _ _ hl
      rw [clsN_is h]
      exact pe_bltn q1 hm hv rfl hn q2
    · cases h
  · cases h
theorem tysG_ok (ok : SgOk X g) : ∀ {es : List Expr} {ts : List TyN}, tysG g es = some ts → PA X es (fun σ H Q => Q (ts.map fun t => V.ty t.s) H)
  | [], _, h => by cases h; exact pa_nil
  | .Name x p :: es, _, h => by
    unfold tysG at h
    split at h
    · rename_i t ts h1 h2
      cases h
      exact (pa_cons (tyG_ok ok h1) (tysG_ok ok h2) rfl).imp fun σ H Q q => q
    · cases h
theorem cls_pair : ∀ ts : List TyN, Paired ClsV (ts.map fun t => V.ty t.s) (ts.map fun t => Value.type t.s)
  | [] => .nil
  | t :: ts => .cons (.ty _) (cls_pair ts)
theorem re_isi {a : Expr} {xa : CB} {x : Str} {p p2 pos : Pos} {t : TyN} (ok : SgOk X g) (hg : Gl X "isinstance") (hm : X.mg "isinstance" = none) (ha : PE X a (rdB X.K E xa)) (hpl : plainE a = true) (ht : tyG g x = some t) :
    PE X (.Call (.Name "isinstance" p) [a, .Name x p2] [] pos) (rdV X.K E (cIsi xa [t])) :=
  (pe_callB call_isi hg hm PyProof.Rows.boot_isinstance (pa_cons ha (pa_cons (tyG_ok ok ht) pa_nil rfl) (plain_star hpl)) (by decide) (by decide) (plain_star hpl) rfl).imp fun σ H Q' ⟨B, F0, F, ρ, Q, re, h, k⟩ => by
    refine ⟨B, F0, F, ρ, _, re, h, fun v H1 F1 d g1 b1 q => ?_⟩
    cases hs : tyN d with
    | some s =>
      have q : Q (.bl ([t].any (subN s)), false) := by
        have q0 : isiM [t] d Q E := q
        unfold isiM at q0
        rw [hs] at q0
        exact q0
      refine ⟨v, .ty t.s, .type s.s, .type t.s, subN s t, rfl, .ty _, tyX_of g1.fh b1 hs, kit_ty (kit_sub s t), ?_⟩
      have q' : Q (.bl (subN s t || false), false) := q
      rw [Bool.or_false] at q'
      exact k _ H1 F1 (.bl (subN s t), false) g1 (Val.of (.bl _)) q'
    | none =>
      have q0 : isiM [t] d Q E := q
      unfold isiM at q0
      rw [hs] at q0
      exact (show False from q0).elim
theorem re_isiT {a : Expr} {xa : CB} {es : List Expr} {j : Nat} {p p2 pos : Pos} {ts : List TyN} (ok : SgOk X g) (hg : Gl X "isinstance") (hm : X.mg "isinstance" = none) (ha : PE X a (rdB X.K E xa)) (hpl : plainE a = true) (ht : tysG g es = some ts) (hl : ts.length ≤ 10) :
    PE X (.Call (.Name "isinstance" p) [a, .Tuple es j p2] [] pos) (rdV X.K E (cIsi xa ts)) :=
  (pe_callB call_isiT hg hm PyProof.Rows.boot_isinstance (pa_cons ha (pa_cons (pe_tup (tysG_ok ok ht)) pa_nil rfl) (plain_star hpl)) (by decide) (by decide) (plain_star hpl) rfl).imp fun σ H Q' ⟨B, F0, F, ρ, Q, re, h, k⟩ => by
    refine ⟨B, F0, F, ρ, _, re, h, fun v H1 F1 d g1 b1 q => ⟨?_, fun T hT => ?_⟩⟩
    · rw [List.length_map]; exact Nat.le_trans hl (by decide)
    · cases hs : tyN d with
      | some s =>
        have q : Q (.bl (ts.any (subN s)), false) := by
          have q0 : isiM ts d Q E := q
          unfold isiM at q0
          rw [hs] at q0
          exact q0
        have g2 := Grow.own g1.fh hT (.tup (ts.map fun t => V.ty t.s))
        refine ⟨v, T, _, .type s.s, _, _, rfl, upd_same, cls_pair ts, tyX_of g2.fh (b1.grow g2) hs, kit_any s ts, ?_⟩
        exact k _ _ F1 (.bl _, false) (g1.trans g2) (Val.of (.bl _)) q
      | none =>
        have q0 : isiM ts d Q E := q
        unfold isiM at q0
        rw [hs] at q0
        exact (show False from q0).elim
end
def vIsi : VR := fun r g e => match e with
  | .Call (.Name x _) [a, .Name y _] [] _ => if (spB g x "isinstance" && plainE a) = true then match bOf r g a, tyG g y with
    | some c, some t => some (cIsi c [t])
    | _, _ => none else none
  | .Call (.Name x _) [a, .Tuple es _ _] [] _ => if (spB g x "isinstance" && plainE a) = true then match bOf r g a, tysG g es with
    | some c, some ts => if ts.length ≤ 10 then some (cIsi c ts) else none
    | _, _ => none else none
  | _ => none
theorem vIsi_ok : VrOk vIsi := by
  intro r R X g E e c ok h
  unfold vIsi at h
  split at h
  · split at h
    · rename_i hs
      rw [Bool.and_eq_true] at hs
      obtain ⟨rfl, q1, q2⟩ := spB_is ok hs.1
      split at h
      · cases h; exact re_isi ok q1 q2 (bOf_ok R ok ‹_›) hs.2 ‹_›
      · cases h
    · cases h
  · split at h
    · rename_i hs
      rw [Bool.and_eq_true] at hs
      obtain ⟨rfl, q1, q2⟩ := spB_is ok hs.1
      split at h
      · split at h
        · cases h; exact re_isiT ok q1 q2 (bOf_ok R ok ‹_›) hs.2 ‹_› ‹_›
        · cases h
      · cases h
    · cases h
  · cases h

/-! ### list(range(..)), tuple(range(..)) -/
def rgsM : List D → M (Int × Int)
  | [.int j] => fun Q _ => RgOk 0 j ∧ Q (0, j)
  | [.int i, .int j] => fun Q _ => RgOk i j ∧ Q (i, j)
  | _ => fail
def cLRg (tp : Bool) (l : CL) : CV := fun ρ => bnd (l ρ) fun ds => bnd (rgsM ds) fun ij => ret (if tp = true then .tup (upto ij.1 1 (ij.2 - ij.1).toNat) else .lst (upto ij.1 1 (ij.2 - ij.1).toNat), !tp)
theorem rgV_rep {K : PySem.W.Frag} {F : Hp} (i j : Int) : RepL K F (rgV i j) (upto i 1 (j - i).toNat) := by
  unfold rgV upto
  induction (List.range (j - i).toNat) with
  | nil => exact .nil
  | cons n ns ih =>
    rw [List.map_cons, List.map_cons, Int.mul_one]
    exact .cons (.int _) ih
section
variable {X : Cx} {E : Xn → Prop} {a b : Expr} {p p2 pos pos2 : Pos} {xa xb : CB}
theorem rg_end {K : PySem.W.Frag} {F H F1 H1 : Hp} {Q : D × Bool → Prop} {Q' : VK} (k : ∀ v H' F' r, Grow F H F' H' → Val K F' H' H v r → Q r → Q' v H') (g1 : Grow F H F1 H1) (i j : Int) (q : Q (.lst (upto i 1 (j - i).toNat), true)) :
    ∀ z, H1 z = none → Q' (.ref z) (upd H1 z (.lst (rgV i j))) := fun z hz => new_own g1.fh (rgV_rep i j) q (fun v F' H' r g' v' q' => k v H' F' r (g1.trans g') (v'.back g1) q') z hz
theorem rg_endT {K : PySem.W.Frag} {F H F1 H1 : Hp} {Q : D × Bool → Prop} {Q' : VK} (k : ∀ v H' F' r, Grow F H F' H' → Val K F' H' H v r → Q r → Q' v H') (g1 : Grow F H F1 H1) (i j : Int) (q : Q (.tup (upto i 1 (j - i).toNat), false)) :
    ∀ z, H1 z = none → Q' (.ref z) (upd H1 z (.tup (rgV i j))) := fun z hz => new_tup g1.fh (rgV_rep i j) q (fun v F' H' r g' v' q' => k v H' F' r (g1.trans g') (v'.back g1) q') z hz
theorem re_lrg1 (hc : X.calm = true) (hg : Gl X "list") (hm : X.mg "list" = none) (hg2 : Gl X "range") (hm2 : X.mg "range" = none) (ha : PE X a (rdF X.K E xa)) (hpl : plainE a = true) :
    PE X (.Call (.Name "list" p) [.Call (.Name "range" p2) [a] [] pos2] [] pos) (rdV X.K E (cLRg false (cCons xa cNil))) :=
  (pe_listRg hc hg hm (prg_1 hg2 hm2 ha (plain_star hpl)) rfl).imp fun σ H Q' ⟨B, F0, F, ρ, Q, re, h, k⟩ => ⟨B, F0, F, ρ, _, re, h, fun v H1 F1 d g1 r1 q => by
    cases r1 with
    | int j => exact ⟨j, rfl, q.1, rg_end k g1 0 j q.2⟩
    | _ => exact (show False from q).elim⟩
theorem re_lrg2 (hc : X.calm = true) (hg : Gl X "list") (hm : X.mg "list" = none) (hg2 : Gl X "range") (hm2 : X.mg "range" = none) (ha : PE X a (rdF X.K E xa)) (hb : PE X b (rdF X.K E xb)) (hpl : plainE a = true) (hplb : plainE b = true) :
    PE X (.Call (.Name "list" p) [.Call (.Name "range" p2) [a, b] [] pos2] [] pos) (rdV X.K E (cLRg false (cCons xa (cCons xb cNil)))) :=
  (pe_listRg hc hg hm (prg_2 hg2 hm2 ha hb (plain_star hpl) (plain_star hplb) (plains_pl (es := [b]) (by rw [List.all_cons, hplb]; rfl))) rfl).imp fun σ H Q' ⟨B, F0, F, ρ, Q, re, h, k⟩ => ⟨B, F0, F, ρ, _, re, h, fun v H1 F1 d g1 r1 q =>
    ⟨B, F0, F1, ρ, _, re.grow g1, q, fun w H2 F2 d2 g2 r2 q => by
      cases r1 with
      | int i => cases r2 with
        | int j => exact ⟨i, j, rfl, rfl, q.1, rg_end k (g1.trans g2) i j q.2⟩
        | _ => exact (show False from q).elim
      | _ => exact (show False from q).elim⟩⟩
theorem re_trg1 (hc : X.calm = true) (hg : Gl X "tuple") (hm : X.mg "tuple" = none) (hg2 : Gl X "range") (hm2 : X.mg "range" = none) (ha : PE X a (rdF X.K E xa)) (hpl : plainE a = true) :
    PE X (.Call (.Name "tuple" p) [.Call (.Name "range" p2) [a] [] pos2] [] pos) (rdV X.K E (cLRg true (cCons xa cNil))) :=
  (pe_tupRg hc hg hm (prg_1 hg2 hm2 ha (plain_star hpl)) rfl).imp fun σ H Q' ⟨B, F0, F, ρ, Q, re, h, k⟩ => ⟨B, F0, F, ρ, _, re, h, fun v H1 F1 d g1 r1 q => by
    cases r1 with
    | int j => exact ⟨j, rfl, q.1, rg_endT k g1 0 j q.2⟩
    | _ => exact (show False from q).elim⟩
end
def tyB (g : Sg) (x y : Str) (T : String) : Bool := decide (x = y) && globB g x && (match g.gl.lookup x with | some (.ty T' _) => decide (T' = T) | _ => false)
theorem tyB_is {X : Cx} {g : Sg} (ok : SgOk X g) {x y : Str} {T : String} (h : tyB g x y T = true) : x = y ∧ Gl X y ∧ X.mg y = none := by
  unfold tyB at h
  rw [Bool.and_eq_true, Bool.and_eq_true] at h
  obtain ⟨⟨h1, h2⟩, h3⟩ := h
  have h1 := of_decide_eq_true h1
  subst h1
  refine ⟨rfl, (globB_is ok h2).1, ?_⟩
  split at h3
  · rename_i hl; exact (ok.gl _ _ hl).1
  · cases h3
def vLRg : VR := fun r g e => match e with
  | .Call (.Name x _) [.Call (.Name y _) [a] [] _] [] _ => if spB g y "range" && plainE a then
      if tyB g x "list" "list" = true then (fOf r g a).map fun c => cLRg false (cCons c cNil)
      else if tyB g x "tuple" "tuple" = true then (fOf r g a).map fun c => cLRg true (cCons c cNil) else none
    else none
  | .Call (.Name x _) [.Call (.Name y _) [a, b] [] _] [] _ => if spB g y "range" && tyB g x "list" "list" && plainE a && plainE b then match fOf r g a, fOf r g b with
    | some c, some d => some (cLRg false (cCons c (cCons d cNil)))
    | _, _ => none else none
  | _ => none
theorem vLRg_ok : VrOk vLRg := by
  intro r R X g E e c ok h
  unfold vLRg at h
  split at h
  · split at h
    · rename_i hs
      rw [Bool.and_eq_true] at hs
      obtain ⟨rfl, q1, q2⟩ := spB_is ok hs.1
      split at h
      · rename_i ht
        obtain ⟨rfl, q3, q4⟩ := tyB_is ok ht
        obtain ⟨d, h1, rfl⟩ := map_some h
        exact re_lrg1 ok.calm q3 q4 q1 q2 (fOf_ok R ok h1) hs.2
      · split at h
        · rename_i ht
          obtain ⟨rfl, q3, q4⟩ := tyB_is ok ht
          obtain ⟨d, h1, rfl⟩ := map_some h
          exact re_trg1 ok.calm q3 q4 q1 q2 (fOf_ok R ok h1) hs.2
        · cases h
    · cases h
  · split at h
    · rename_i hs
      rw [Bool.and_eq_true, Bool.and_eq_true, Bool.and_eq_true] at hs
      obtain ⟨⟨⟨hs1, hs2⟩, hs3⟩, hs4⟩ := hs
      obtain ⟨rfl, q1, q2⟩ := spB_is ok hs1
      obtain ⟨rfl, q3, q4⟩ := tyB_is ok hs2
      split at h
      · cases h
        exact re_lrg2 ok.calm q3 q4 q1 q2 (fOf_ok R ok ‹_›) (fOf_ok R ok ‹_›) hs3 hs4
      · cases h
    · cases h
  · cases h
end DL

namespace DL
open PySem L2 PySem.W

/-! ### the least, the greatest, of data -/
def bestM (f : PyData → List PyData → PyData) (ds : List D) : M (D × Bool) := fun Q _ => match pyL ds with
  | some (p :: ps) => (AlikeAll (p :: ps) ∧ PyData.depthAll (p :: ps) ≤ 50 ∧ PyData.canLayAll0 (p :: ps) = true) ∧ ∀ d, d ∈ ds → d.py = some (f p ps) → Q (d, false)
  | _ => False
theorem pyL_at : ∀ {ds : List D} {ps : List PyData} {i : Nat} {d : D}, pyL ds = some ps → ds[i]? = some d → ∃ p, d.py = some p ∧ ps[i]? = some p
  | [], _, _, _, _, e => by simp at e
  | d :: ds, ps, i, z, h, e => by
    simp only [pyL] at h
    cases q : D.py d with
    | none => rw [q] at h; simp at h
    | some p =>
      cases q2 : pyL ds with
      | none => rw [q, q2] at h; simp at h
      | some ps' =>
        rw [q, q2] at h
        simp only [Option.some.injEq] at h
        subst h
        cases i with
        | zero => simp at e; subst e; exact ⟨p, q, rfl⟩
        | succ i => obtain ⟨p2, h1, h2⟩ := pyL_at (i := i) (d := z) q2 (by simpa using e); exact ⟨p2, h1, by simpa using h2⟩
theorem best_item {X : Cx} {pins : List (Addr × Obj)} {σ : L2.St} {F H : Hp} {s : Shared} {vs : List V} {ds : List D} {ps : List PyData} {its : List Value} {i : Nat} {u : Value} {h' : Heap} {tk : Nat} {bs : List Addr} {p : PyData} {Q : D × Bool → Prop} {Q' : VK}
    (I : Inv X pins σ H s) (sm : Same F H) (rv : Vals vs its) (r : RepL X.K F vs ds) (e : pyL ds = some ps) (lay : PyData.canLayAll0 ps = true) (hu : its[i]? = some u) (rd : Reads h' u p bs) (hk : ∀ b o, s.heap.get? b = some o → h'.get? b = some o)
    (q : ∀ d, d ∈ ds → d.py = some p → Q (d, false)) (k : ∀ v F' H' r, Grow F H F' H' → Val X.K F' H' H v r → Q r → Q' v H') : EP X pins σ Q' u { s with heap := h', toks := tk } := by
  have hi : i < vs.length := by rw [rv.length]; exact lt_of_at hu
  obtain ⟨u', hu', ru⟩ := rv.get (List.getElem?_eq_getElem hi)
  rw [hu] at hu'
  cases hu'
  obtain ⟨d, hd, rp⟩ := r.getV (List.getElem?_eq_getElem hi)
  obtain ⟨p', hp, hps⟩ := pyL_at e hd
  have I1 : Inv X pins σ H { s with heap := h', toks := tk } := I.kept hk
  obtain ⟨as, rd2⟩ := Dp.reads I1 p' _ _ ((rp.mono sm).dp hp) ru
  have lay' : ∀ {ps : List PyData} {i : Nat}, PyData.canLayAll0 ps = true → ps[i]? = some p' → p'.canLay0 = true := by
    intro ps
    induction ps with
    | nil => intro i _ h; simp at h
    | cons a r ih =>
      intro i h1 h2
      rw [PyData.canLayAll0, Bool.and_eq_true] at h1
      cases i with
      | zero => simp at h2; subst h2; exact h1.1
      | succ i => exact ih h1.2 (by simpa using h2)
  have ep := SeqAt.Reads.unique _ _ _ _ _ (lay' lay hps) rd2 rd
  subst ep
  exact ⟨_, H, I1, ru, k _ F H (d, false) (Grow.refl sm) (Val.of rp) (q d (List.mem_of_getElem? hd) hp)⟩
theorem foldl_top : ∀ (l : List Int) (a : Int), topI a l = l.foldl max a
  | [], _ => rfl
  | b :: r, a => by
    unfold topI
    rw [List.foldl_cons, foldl_top r]
    have : (if a < b then b else a) = max a b := by
      split <;> omega
    rw [this]
theorem foldl_low : ∀ (l : List Int) (a : Int), lowI a l = l.foldl min a
  | [], _ => rfl
  | b :: r, a => by
    unfold lowI
    rw [List.foldl_cons, foldl_low r]
    have : (if b < a then b else a) = min a b := by
      split <;> omega
    rw [this]
theorem pyL_ints : ∀ {ds : List D} {ns : List Int}, intsD ds = some ns → pyL ds = some (ns.map PyData.int) ∧ ds = ns.map D.int
  | [], _, h => by cases h; exact ⟨rfl, rfl⟩
  | .int i :: ds, ns, h => by
    simp only [intsD] at h
    cases q : intsD ds with
    | none => rw [q] at h; cases h
    | some ms =>
      rw [q] at h
      simp only [Option.map_some, Option.some.injEq] at h
      subst h
      obtain ⟨h1, h2⟩ := pyL_ints q
      exact ⟨by simp only [pyL, D.py, h1, List.map_cons], by rw [List.map_cons, ← h2]⟩
  | .non :: _, _, h | .bl _ :: _, _, h | .str _ :: _, _, h | .lst _ :: _, _, h | .tup _ :: _, _, h | .dct _ :: _, _, h | .obj _ _ :: _, _, h | .raw _ :: _, _, h | .gen :: _, _, h | .scr _ :: _, _, h => by simp [intsD] at h
theorem alike_ints (ns : List Int) : AlikeAll (ns.map PyData.int) := by
  refine ⟨fun x hx y hy => ?_, fun x hx => ?_⟩
  · obtain ⟨i, _, rfl⟩ := List.mem_map.mp hx
    obtain ⟨j, _, rfl⟩ := List.mem_map.mp hy
    rfl
  · obtain ⟨i, _, rfl⟩ := List.mem_map.mp hx
    intro z; cases z
theorem depth_ints : ∀ ns : List Int, PyData.depthAll (ns.map PyData.int) ≤ 1
  | [] => by simp [PyData.depthAll]
  | n :: ns => by
    have := depth_ints ns
    simp only [List.map_cons, PyData.depthAll, PyData.depth]
    omega
theorem lay_ints : ∀ ns : List Int, PyData.canLayAll0 (ns.map PyData.int) = true
  | [] => rfl
  | n :: ns => by simp only [List.map_cons, PyData.canLayAll0, PyData.canLay0, lay_ints ns]; rfl
/-- a non-empty list's greatest (least): of ints by their order, else by the order of data -/
def bestI (gt : Bool) (ds : List D) : M (D × Bool) := fun Q E => match intsD ds with
  | some (a :: r) => Q (.int (if gt = true then topI a r else lowI a r), false)
  | some [] => False
  | none => bestM (if gt = true then maxD else minD) ds Q E
theorem bestI_M {gt : Bool} {ds : List D} {Q : D × Bool → Prop} {E : Xn → Prop} (h : bestI gt ds Q E) : bestM (if gt = true then maxD else minD) ds Q E := by
  unfold bestI at h
  split at h
  · rename_i a r e
    obtain ⟨h1, h2⟩ := pyL_ints e
    unfold bestM
    rw [h1, List.map_cons]
    refine ⟨⟨alike_ints (a :: r), Nat.le_trans (depth_ints (a :: r)) (by decide), lay_ints (a :: r)⟩, fun d hd hp => ?_⟩
    subst h2
    obtain ⟨i, _, rfl⟩ := List.mem_map.mp hd
    have hp : some (PyData.int i) = some ((if gt = true then maxD else minD) (.int a) (r.map PyData.int)) := hp
    cases gt with
    | true =>
      rw [if_pos rfl] at h hp
      rw [maxD_ints, ← foldl_top] at hp
      cases hp
      exact h
    | false =>
      rw [if_neg Bool.false_ne_true] at h hp
      rw [minD_ints, ← foldl_low] at hp
      cases hp
      exact h
  · exact h.elim
  · exact h
def bestsM (gt : Bool) : List D → M (D × Bool)
  | [.lst ds] => bestI gt ds
  | [.tup ds] => bestI gt ds
  | [.int i, .int j] => ret (.int (if gt = true then (if j > i then j else i) else (if j < i then j else i)), false)
  | _ => fail
def bestDM (gt : Bool) (d0 : D) : List D → M (D × Bool)
  | [.lst []] => ret (d0, false)
  | [.tup []] => ret (d0, false)
  | [.lst (d :: ds)] => bestI gt (d :: ds)
  | [.tup (d :: ds)] => bestI gt (d :: ds)
  | _ => fail
section
variable {X : Cx}
theorem bestM_some {f : PyData → List PyData → PyData} {ds : List D} {Q : D × Bool → Prop} {E : Xn → Prop} (h : bestM f ds Q E) : ∃ p ps, pyL ds = some (p :: ps) ∧ (AlikeAll (p :: ps) ∧ PyData.depthAll (p :: ps) ≤ 50 ∧ PyData.canLayAll0 (p :: ps) = true) ∧ ∀ d, d ∈ ds → d.py = some (f p ps) → Q (d, false) := by
  unfold bestM at h
  split at h
  · exact ⟨_, _, by assumption, h⟩
  · exact h.elim
theorem b_max2 (hu : X.A.units + 110 < cLine) (hc : X.calm = true) : CallR X (.builtin "max") (rcM X.K (bestsM true)) := by
  intro pins s σ H xs us Q I r h
  obtain ⟨F, ds, Q2, E, sm, b, h, k⟩ := h
  unfold bestsM at h
  split at h
  · obtain ⟨v, rfl, b1⟩ := b.one
    obtain ⟨a, vs, rfl, ha, ra⟩ := b1.lst sm
    obtain ⟨p, ps, e, ⟨al, dp, lay⟩, q⟩ := bestM_some (bestI_M h)
    obtain ⟨its, rv, pl, hz⟩ := I.list (SqL.of ha)
    obtain ⟨as, rd⟩ := Dp.readsAll I _ _ _ ((ra.mono sm).dp e) rv
    obtain ⟨u, rfl, ru⟩ := Vals.one r
    cases ru
    exact max_list_data (I.ok.hd hc) pl.isList (by simpa using rd) al (by omega) fun i v h' tk bs hv hr hk => best_item I sm rv ra e lay (by simpa using hv) hr hk q k
  · obtain ⟨v, rfl, b1⟩ := b.one
    obtain ⟨a, vs, rfl, ha, ra⟩ := b1.tup sm
    obtain ⟨p, ps, e, ⟨al, dp, lay⟩, q⟩ := bestM_some (bestI_M h)
    obtain ⟨its, rv, pl, hz⟩ := I.tuple ha
    obtain ⟨as, rd⟩ := Dp.readsAll I _ _ _ ((ra.mono sm).dp e) rv
    obtain ⟨u, rfl, ru⟩ := Vals.one r
    cases ru
    exact max_tuple_data (I.ok.hd hc) (show s.heap.IsTuple a its.toArray from pl) (by simpa using rd) al (by omega) fun i v h' tk bs hv hr hk => best_item I sm rv ra e lay (by simpa using hv) hr hk q k
  · obtain ⟨v, u, rfl, b1, b2⟩ := b.two
    cases b1.int; cases b2.int
    exact call_max2 hc pins s σ H _ us Q I r ⟨_, _, rfl, k _ F H _ (Grow.refl sm) (Val.of (.int _)) h⟩
  · exact h.elim
theorem b_min2 (hu : X.A.units + 110 < cLine) (hc : X.calm = true) : CallR X (.builtin "min") (rcM X.K (bestsM false)) := by
  intro pins s σ H xs us Q I r h
  obtain ⟨F, ds, Q2, E, sm, b, h, k⟩ := h
  unfold bestsM at h
  split at h
  · obtain ⟨v, rfl, b1⟩ := b.one
    obtain ⟨a, vs, rfl, ha, ra⟩ := b1.lst sm
    obtain ⟨p, ps, e, ⟨al, dp, lay⟩, q⟩ := bestM_some (bestI_M h)
    obtain ⟨its, rv, pl, hz⟩ := I.list (SqL.of ha)
    obtain ⟨as, rd⟩ := Dp.readsAll I _ _ _ ((ra.mono sm).dp e) rv
    obtain ⟨u, rfl, ru⟩ := Vals.one r
    cases ru
    exact min_list_data (I.ok.hd hc) pl.isList (by simpa using rd) al (by omega) fun i v h' tk bs hv hr hk => best_item I sm rv ra e lay (by simpa using hv) hr hk q k
  · obtain ⟨v, rfl, b1⟩ := b.one
    obtain ⟨a, vs, rfl, ha, ra⟩ := b1.tup sm
    obtain ⟨p, ps, e, ⟨al, dp, lay⟩, q⟩ := bestM_some (bestI_M h)
    obtain ⟨its, rv, pl, hz⟩ := I.tuple ha
    obtain ⟨as, rd⟩ := Dp.readsAll I _ _ _ ((ra.mono sm).dp e) rv
    obtain ⟨u, rfl, ru⟩ := Vals.one r
    cases ru
    exact min_tuple_data (I.ok.hd hc) (show s.heap.IsTuple a its.toArray from pl) (by simpa using rd) al (by omega) fun i v h' tk bs hv hr hk => best_item I sm rv ra e lay (by simpa using hv) hr hk q k
  · obtain ⟨v, u, rfl, b1, b2⟩ := b.two
    cases b1.int; cases b2.int
    exact call_min2 hc pins s σ H _ us Q I r ⟨_, _, rfl, k _ F H _ (Grow.refl sm) (Val.of (.int _)) h⟩
  · exact h.elim
/-- max(x, default = d), min(..) -/
def rBD (K : PySem.W.Frag) (gt : Bool) : List V → List V → Hp → VK → Prop := fun vs zs H Q => ∃ F ds d0 Q2 E, Same F H ∧ BorL K F H vs ds ∧ RepL K F zs [d0] ∧ bestDM gt d0 ds Q2 E ∧ ∀ v F' H' r, Grow F H F' H' → Val K F' H' H v r → Q2 r → Q v H'
theorem ck_max (hu : X.A.units + 110 < cLine) (hc : X.calm = true) : CallRK X (.builtin "max") ["default"] (rBD X.K true) := by
  intro pins s σ H xs zs us ws Q I r rz h
  obtain ⟨F, ds, d0, Q2, E, sm, b, rd0, h, k⟩ := h
  obtain ⟨z, rfl⟩ : ∃ z, zs = [z] := len1 rd0.length
  obtain ⟨_, e0, rz0⟩ := rd0.one
  cases e0
  obtain ⟨w, rfl, rw1⟩ := Vals.one rz
  have dflt : Q2 (d0, false) → ∀ h' tk, (∀ b o, s.heap.get? b = some o → h'.get? b = some o) → EP X pins σ Q w { s with heap := h', toks := tk } := fun q h' tk hk => ⟨z, H, I.kept hk, rw1, k z F H (d0, false) (Grow.refl sm) (Val.of rz0) q⟩
  unfold bestDM at h
  split at h
  · obtain ⟨v, rfl, b1⟩ := b.one
    obtain ⟨a, vs, rfl, ha, ra⟩ := b1.lst sm
    cases ra
    obtain ⟨its, rv, pl, hz⟩ := I.list (SqL.of ha)
    cases rv
    obtain ⟨u, rfl, ru⟩ := Vals.one r
    cases ru
    exact max_list_default (xs := []) (I.ok.hd hc) pl.isList .nil (alike_ints []) (by simp only [PyData.depthAll]; omega) (fun _ => dflt h) fun y ys i v h' tk bs e => by cases e
  · obtain ⟨v, rfl, b1⟩ := b.one
    obtain ⟨a, vs, rfl, ha, ra⟩ := b1.tup sm
    cases ra
    obtain ⟨its, rv, pl, hz⟩ := I.tuple ha
    cases rv
    obtain ⟨u, rfl, ru⟩ := Vals.one r
    cases ru
    exact max_tuple_default (xs := []) (I.ok.hd hc) (show s.heap.IsTuple a #[] from pl) .nil (alike_ints []) (by simp only [PyData.depthAll]; omega) (fun _ => dflt h) fun y ys i v h' tk bs e => by cases e
  · obtain ⟨v, rfl, b1⟩ := b.one
    obtain ⟨a, vs, rfl, ha, ra⟩ := b1.lst sm
    obtain ⟨p, ps, e, ⟨al, dp, lay⟩, q⟩ := bestM_some (bestI_M h)
    obtain ⟨its, rv, pl, hz⟩ := I.list (SqL.of ha)
    obtain ⟨as, rd⟩ := Dp.readsAll I _ _ _ ((ra.mono sm).dp e) rv
    obtain ⟨u, rfl, ru⟩ := Vals.one r
    cases ru
    exact max_list_default (I.ok.hd hc) pl.isList (by simpa using rd) al (by omega) (fun e => by cases e) fun y ys i v h' tk bs e2 hv hr hk => by cases e2; exact best_item I sm rv ra e lay (by simpa using hv) hr hk q k
  · obtain ⟨v, rfl, b1⟩ := b.one
    obtain ⟨a, vs, rfl, ha, ra⟩ := b1.tup sm
    obtain ⟨p, ps, e, ⟨al, dp, lay⟩, q⟩ := bestM_some (bestI_M h)
    obtain ⟨its, rv, pl, hz⟩ := I.tuple ha
    obtain ⟨as, rd⟩ := Dp.readsAll I _ _ _ ((ra.mono sm).dp e) rv
    obtain ⟨u, rfl, ru⟩ := Vals.one r
    cases ru
    exact max_tuple_default (I.ok.hd hc) (show s.heap.IsTuple a its.toArray from pl) (by simpa using rd) al (by omega) (fun e => by cases e) fun y ys i v h' tk bs e2 hv hr hk => by cases e2; exact best_item I sm rv ra e lay (by simpa using hv) hr hk q k
  · exact h.elim
theorem ck_min (hu : X.A.units + 110 < cLine) (hc : X.calm = true) : CallRK X (.builtin "min") ["default"] (rBD X.K false) := by
  intro pins s σ H xs zs us ws Q I r rz h
  obtain ⟨F, ds, d0, Q2, E, sm, b, rd0, h, k⟩ := h
  obtain ⟨z, rfl⟩ : ∃ z, zs = [z] := len1 rd0.length
  obtain ⟨_, e0, rz0⟩ := rd0.one
  cases e0
  obtain ⟨w, rfl, rw1⟩ := Vals.one rz
  have dflt : Q2 (d0, false) → ∀ h' tk, (∀ b o, s.heap.get? b = some o → h'.get? b = some o) → EP X pins σ Q w { s with heap := h', toks := tk } := fun q h' tk hk => ⟨z, H, I.kept hk, rw1, k z F H (d0, false) (Grow.refl sm) (Val.of rz0) q⟩
  unfold bestDM at h
  split at h
  · obtain ⟨v, rfl, b1⟩ := b.one
    obtain ⟨a, vs, rfl, ha, ra⟩ := b1.lst sm
    cases ra
    obtain ⟨its, rv, pl, hz⟩ := I.list (SqL.of ha)
    cases rv
    obtain ⟨u, rfl, ru⟩ := Vals.one r
    cases ru
    exact min_list_default (xs := []) (I.ok.hd hc) pl.isList .nil (alike_ints []) (by simp only [PyData.depthAll]; omega) (fun _ => dflt h) fun y ys i v h' tk bs e => by cases e
  · obtain ⟨v, rfl, b1⟩ := b.one
    obtain ⟨a, vs, rfl, ha, ra⟩ := b1.tup sm
    cases ra
    obtain ⟨its, rv, pl, hz⟩ := I.tuple ha
    cases rv
    obtain ⟨u, rfl, ru⟩ := Vals.one r
    cases ru
    exact min_tuple_default (xs := []) (I.ok.hd hc) (show s.heap.IsTuple a #[] from pl) .nil (alike_ints []) (by simp only [PyData.depthAll]; omega) (fun _ => dflt h) fun y ys i v h' tk bs e => by cases e
  · obtain ⟨v, rfl, b1⟩ := b.one
    obtain ⟨a, vs, rfl, ha, ra⟩ := b1.lst sm
    obtain ⟨p, ps, e, ⟨al, dp, lay⟩, q⟩ := bestM_some (bestI_M h)
    obtain ⟨its, rv, pl, hz⟩ := I.list (SqL.of ha)
    obtain ⟨as, rd⟩ := Dp.readsAll I _ _ _ ((ra.mono sm).dp e) rv
    obtain ⟨u, rfl, ru⟩ := Vals.one r
    cases ru
    exact min_list_default (I.ok.hd hc) pl.isList (by simpa using rd) al (by omega) (fun e => by cases e) fun y ys i v h' tk bs e2 hv hr hk => by cases e2; exact best_item I sm rv ra e lay (by simpa using hv) hr hk q k
  · obtain ⟨v, rfl, b1⟩ := b.one
    obtain ⟨a, vs, rfl, ha, ra⟩ := b1.tup sm
    obtain ⟨p, ps, e, ⟨al, dp, lay⟩, q⟩ := bestM_some (bestI_M h)
    obtain ⟨its, rv, pl, hz⟩ := I.tuple ha
    obtain ⟨as, rd⟩ := Dp.readsAll I _ _ _ ((ra.mono sm).dp e) rv
    obtain ⟨u, rfl, ru⟩ := Vals.one r
    cases ru
    exact min_tuple_default (I.ok.hd hc) (show s.heap.IsTuple a its.toArray from pl) (by simpa using rd) al (by omega) (fun e => by cases e) fun y ys i v h' tk bs e2 hv hr hk => by cases e2; exact best_item I sm rv ra e lay (by simpa using hv) hr hk q k
  · exact h.elim
def cBest (gt : Bool) (l : CL) (dc : CB) : CV := fun ρ => bnd (l ρ) fun ds => bnd (dc ρ) fun d0 => bestDM gt d0 ds
theorem bd_imp {E : Xn → Prop} {gt : Bool} {cl : CL} {dc : CB} {σ : L2.St} {H : Hp} {Q' : VK} (h : rdV X.K E (cBest gt cl dc) σ H Q') : tCKw (rBD X.K gt) (rdM X.K E cl) (tCons (rdF X.K E dc) tNil) σ H Q' := by
  obtain ⟨B, F0, F, ρ, Q, re, h, k⟩ := h
  exact ⟨B, F0, F, ρ, _, re, h, fun vs H1 F1 ds g1 b1 q => ⟨B, F0, F1, ρ, _, re.grow g1, q, fun z H2 F2 d0 g2 r2 q2 =>
    ⟨F2, ds, d0, Q, E, g2.fh, b1.grow g2, .cons r2 .nil, q2, fun v F' H' r g' v' q' => k v H' F' r ((g1.trans g2).trans g') (v'.back (g1.trans g2)) q'⟩⟩⟩
end
def vBest : VR := fun r g e => match e with
  | .Call (.Name x _) [a] [⟨some kn, d, _⟩] _ => if kn = ("default" : Str) ∧ plainE a = true ∧ globB g x = true then match g.gl.lookup x with
    | some (.bi id _) => if id = "max" then match mOf r g [a], fOf r g d with
        | some l, some c => some (cBest true l c)
        | _, _ => none
      else if id = "min" then match mOf r g [a], fOf r g d with
        | some l, some c => some (cBest false l c)
        | _, _ => none
      else none
    | _ => none else none
  | _ => none
theorem vBest_ok : VrOk vBest := by
  intro r R X g E e c ok h
  unfold vBest at h
  split at h
  · split at h
    · rename_i hs
      obtain ⟨rfl, hp, hg⟩ := hs
      obtain ⟨q1, q2⟩ := globB_is ok hg
      split at h
      · rename_i id m hl
        obtain ⟨hm, hv, hn, _⟩ := ok.gl _ _ hl
        split at h
        · rename_i hid
          subst hid
          split at h
          · rename_i h1 h2
            cases h
            exact (pe_callBK (ck_max ok.un ok.calm) q1 hm hv (mOf_ok R ok h1).1 (pk_cons (fOf_ok R ok h2) pk_nil) hn q2 (by rw [plain_star hp]; rfl) (by rw [plain_star hp]; rfl)).imp fun σ H Q' h => bd_imp h
          · cases h
        · split at h
          · rename_i hid
            subst hid
            split at h
            · rename_i h1 h2
              cases h
              exact (pe_callBK (ck_min ok.un ok.calm) q1 hm hv (mOf_ok R ok h1).1 (pk_cons (fOf_ok R ok h2) pk_nil) hn q2 (by rw [plain_star hp]; rfl) (by rw [plain_star hp]; rfl)).imp fun σ H Q' h => bd_imp h
            · cases h
          · cases h
      · cases h
    · cases h
  · cases h

/-! ### dict(pairs) -/
def keyD : D → Option Key
  | .int i => some (.inl i)
  | .str x => some (.inr x)
  | _ => none
def kvsD : List D → Option (List (Key × D))
  | [] => some []
  | .tup [k, v] :: r => match keyD k, kvsD r with
    | some k, some l => some ((k, v) :: l)
    | _, _ => none
  | _ :: _ => none
def putG (kvs : List (Key × D)) (k : Key) (v : D) : List (Key × D) :=
  if (kvs.any fun kv => decide (kv.1 = k)) = true then kvs.map (fun kv => if kv.1 = k then (kv.1, v) else kv) else kvs ++ [(k, v)]
def mergeG (kvs more : List (Key × D)) : List (Key × D) := more.foldl (fun acc kv => putG acc kv.1 kv.2) kvs
def unK (l : List (Key × D)) : List (D × D) := l.map fun p => (kD p.1, p.2)
inductive RepP (K : PySem.W.Frag) (H : Hp) : List (Key × V) → List (Key × D) → Prop
  | nil : RepP K H [] []
  | cons {k : Key} {v : V} {d : D} {ks : List (Key × V)} {ds : List (Key × D)} : Rep K H v d → RepP K H ks ds → RepP K H ((k, v) :: ks) ((k, d) :: ds)
section
variable {K : PySem.W.Frag} {H : Hp}
theorem RepP.rep : ∀ {ks : List (Key × V)} {ds : List (Key × D)}, RepP K H ks ds → RepK K H ks (unK ds)
  | _, _, .nil => .nil
  | _, _, .cons r t => .cons r (RepP.rep t)
theorem RepP.any {k : Key} : ∀ {ks : List (Key × V)} {ds : List (Key × D)}, RepP K H ks ds → (ks.any fun kv => decide (kv.1 = k)) = ds.any fun kv => decide (kv.1 = k)
  | _, _, .nil => rfl
  | _, _, .cons r t => by rw [List.any_cons, List.any_cons, RepP.any t]
theorem RepP.map {k : Key} {v : V} {d : D} (q : Rep K H v d) : ∀ {ks : List (Key × V)} {ds : List (Key × D)}, RepP K H ks ds → RepP K H (ks.map fun kv => if kv.1 = k then (kv.1, v) else kv) (ds.map fun kv => if kv.1 = k then (kv.1, d) else kv)
  | _, _, .nil => .nil
  | _, _, .cons (k := k') r t => by
    rw [List.map_cons, List.map_cons]
    by_cases e : k' = k
    · rw [if_pos e, if_pos e]; exact .cons q (RepP.map q t)
    · rw [if_neg e, if_neg e]; exact .cons r (RepP.map q t)
theorem RepP.app {k : Key} {v : V} {d : D} (q : Rep K H v d) : ∀ {ks : List (Key × V)} {ds : List (Key × D)}, RepP K H ks ds → RepP K H (ks ++ [(k, v)]) (ds ++ [(k, d)])
  | _, _, .nil => .cons q .nil
  | _, _, .cons r t => .cons r (RepP.app q t)
theorem RepP.put {k : Key} {v : V} {d : D} (q : Rep K H v d) {ks : List (Key × V)} {ds : List (Key × D)} (r : RepP K H ks ds) : RepP K H (putK ks k v) (putG ds k d) := by
  unfold putK putG
  rw [r.any]
  split
  · exact r.map q
  · exact r.app q
theorem RepP.merge : ∀ {ms : List (Key × V)} {md : List (Key × D)} {ks : List (Key × V)} {ds : List (Key × D)}, RepP K H ms md → RepP K H ks ds → RepP K H (mergeK ks ms) (mergeG ds md)
  | _, _, _, _, .nil, r => r
  | (k, v) :: ms, (_, d) :: md, ks, ds, .cons q t, r => (show RepP K H (mergeK (putK ks k v) ms) (mergeG (putG ds k d) md) from RepP.merge t (r.put q))
theorem key_is {k : D} {y : Key} {v : V} (r : Rep K H v k) (h : keyD k = some y) : v = kV y := by
  cases k <;> cases h
  all_goals (cases r; rfl)
theorem kvs_is : ∀ {ds : List D} {vs : List V} {kvs : List (Key × D)}, RepL K H vs ds → kvsD ds = some kvs → ∃ (ps : List Addr) (ks : List (Key × V)), vs = ps.map V.ref ∧ Paired (fun p kv => SqT K H p [kV kv.1, kv.2]) ps ks ∧ RepP K H ks kvs
  | [], _, _, .nil, h => by cases h; exact ⟨[], [], rfl, .nil, .nil⟩
  | d :: ds, v :: vs, kvs, .cons r t, h => by
    unfold kvsD at h
    split at h
    · cases ‹_ :: _ = []›
    · rename_i k x rest he
      cases he
      split at h
      · rename_i y l hk hl
        cases h
        obtain ⟨ps, ks, rfl, h2, h3⟩ := kvs_is t hl
        cases r with
        | tup h1 rr =>
          rename_i a ws
          cases rr with
          | cons rk rr =>
            cases rr with
            | cons rv rr =>
              cases rr
              have ek := key_is rk hk
              subst ek
              exact ⟨_ :: ps, (y, _) :: ks, rfl, .cons h1 h2, .cons rv h3⟩
      · cases h
    · cases h
end
theorem paired_imp {α β : Type} {R S : α → β → Prop} (h : ∀ a b, R a b → S a b) : ∀ {as : List α} {bs : List β}, Paired R as bs → Paired S as bs
  | _, _, .nil => .nil
  | _, _, .cons r t => .cons (h _ _ r) (paired_imp h t)
def dictM : List D → M (D × Bool)
  | [.lst ds] => fun Q _ => match kvsD ds with
    | some kvs => Q (.dct (unK (mergeG [] kvs)), true)
    | none => False
  | _ => fail
theorem b_dict {X : Cx} (hc : X.calm = true) : CallR X (.type "dict") (rcM X.K dictM) := by
  intro pins s σ H xs us Q I r h
  obtain ⟨F, ds, Q2, E, sm, b, h, k⟩ := h
  unfold dictM at h
  split at h
  · obtain ⟨v, rfl, b1⟩ := b.one
    obtain ⟨a, vs, rfl, ha, ra⟩ := b1.lst sm
    split at h
    · rename_i kvs e
      obtain ⟨ps, ks, rfl, h2, h3⟩ := kvs_is ra e
      refine call_dictP hc pins s σ H _ us Q I r ⟨a, ps, ks, rfl, SqL.of ha, ?_, fun p hp => ?_⟩
      · exact paired_imp (fun p kv q => sqT_same sm q) h2
      · refine k _ F _ _ (Grow.own sm hp _) (Val.own (d := .dct (unK (mergeG [] kvs))) hp (sm.free hp) ?_) h
        exact ⟨_, upd_same, (RepP.merge h3 .nil).rep⟩
    · exact h.elim
  · exact h.elim
end DL

namespace DL
open PySem L2

/-! ### the state told otherwise -/
def Rlx (X : Cx) (H H' : Hp) : Prop := ∀ (pins : List (Addr × Obj)) (σ : L2.St) (s : Shared), Inv X pins σ H s → Inv X pins σ H' s
theorem pss_post {X : Cx} {st : List Stmt} {t : TS} (h : PSs X st t) : PSs X st (fun D σ H => t { D with rt := fun v H' => ∃ H'', Rlx X H' H'' ∧ D.rt v H'' } σ H) := by
  refine ⟨fun pins s σ H D I hw => thn (h.run pins s σ H _ I hw) fun fl s' q => ?_⟩
  cases fl with
  | next => exact q
  | brk => exact q
  | cont => exact q
  | ret u => obtain ⟨v, σ', H', I', r, H'', q1, q2⟩ := q; exact ⟨v, σ', H'', q1 _ _ _ I', r, q2⟩
structure GenV (i m : Int) (cells : List Int) : Prop where
  i0 : 0 ≤ i
  m0 : 0 ≤ m
  m1 : m < 2147483647
  ne : cells ≠ []
  pos : ∀ x ∈ cells, 0 ≤ x
  len : cells.length ≤ 63
theorem vals3 {a b c : V} {us : List Value} (r : Vals [a, b, c] us) : ∃ x y z, us = [x, y, z] ∧ RelV a x ∧ RelV b y ∧ RelV c z := by
  cases r with | cons r1 r => cases r with | cons r2 r => cases r with | cons r3 r => cases r; exact ⟨_, _, _, rfl, r1, r2, r3⟩
theorem rlx_close {X : Cx} {H : Hp} {g c : Addr} {i m : Int} {cells : List Int} (hg : H g = some (.lst [.ref c, .int i, .int m])) (hc : H c = some (.lst (cells.map V.int))) (ne : g ≠ c) (v : GenV i m cells) :
    Rlx X H (upd (upd H g (.ext (genO g c))) c (.ext (cellsO c))) := by
  intro pins σ s I
  have og := I.hok g _ hg
  obtain ⟨_, its, n, rv, e⟩ := og
  obtain ⟨x, y, z, rfl, r1, r2, r3⟩ := vals3 rv
  cases r1
  obtain ⟨t, rfl⟩ := r2
  obtain ⟨u, rfl⟩ := r3
  have I1 : Inv X pins σ (upd H g (.ext (genO g c))) s := I.write (x := g) (e := g) (o := .ext (genO g c)) (t' := s.toks) (h' := s.heap) (by rw [hg]; trivial) (.inl rfl) (fun b u _ q => q) ⟨_, e⟩
    ⟨⟨i, m, t, u, n, v.i0, v.m0, v.m1, e⟩, ⟨_, e⟩, fun h1 h2 ⟨i, m, t, u, n, a, b, d, e⟩ k => ⟨i, m, t, u, n, a, b, d, k _ e⟩⟩
  have hc1 : (upd H g (.ext (genO g c))) c = some (.lst (cells.map V.int)) := by rw [upd_ne (Ne.symm ne)]; exact hc
  obtain ⟨_, its, n, rv, e⟩ := I1.hok c _ hc1
  exact I1.write (x := c) (e := c) (o := .ext (cellsO c)) (t' := s.toks) (h' := s.heap) (by rw [hc1]; trivial) (.inl rfl) (fun b u _ q => q) ⟨_, e⟩
    ⟨⟨its, n, cells, rv.ints, v.ne, v.pos, v.len, e⟩, ⟨_, e⟩, fun h1 h2 ⟨i, n, ns, a, b, d, f, e⟩ k => ⟨i, n, ns, a, b, d, f, k _ e⟩⟩
def opened (H : Hp) (g c : Addr) (i m : Int) (cells : List Int) : Hp := upd (upd H g (.lst [.ref c, .int i, .int m])) c (.lst (cells.map V.int))
theorem open_inv {X : Cx} {H : Hp} {g c : Addr} {pins : List (Addr × Obj)} {σ : L2.St} {s : Shared} (ga : GenAt H g c) (I : Inv X pins σ H s) : ∃ i m cells, GenV i m cells ∧ Inv X pins σ (opened H g c i m cells) s := by
  obtain ⟨hg, hc, ne⟩ := ga
  obtain ⟨⟨i, m, t, u, n, i0, m0, m1, e⟩, _⟩ := I.hok g _ hg
  obtain ⟨⟨its, n2, ns, ia, n0, np, nl, e2⟩, _⟩ := I.hok c _ hc
  refine ⟨i, m, ns, ⟨i0, m0, m1, n0, np, nl⟩, ?_⟩
  have I1 : Inv X pins σ (upd H g (.lst [.ref c, .int i, .int m])) s := I.write (x := g) (e := g) (o := .lst [.ref c, .int i, .int m]) (t' := s.toks) (h' := s.heap) (by rw [hg]; trivial) (.inl rfl) (fun b u _ q => q) ⟨_, e⟩
    ⟨by show 3 ≤ sizeLine; decide, [.ref c, .int i t, .int m u], n, .cons rfl (.cons ⟨_, rfl⟩ (.cons ⟨_, rfl⟩ .nil)), e⟩
  have hc1 : (upd H g (.lst [.ref c, .int i, .int m])) c = some (.ext (cellsO c)) := by rw [upd_ne (Ne.symm ne)]; exact hc
  exact I1.write (x := c) (e := c) (o := .lst (ns.map V.int)) (t' := s.toks) (h' := s.heap) (by rw [hc1]; trivial) (.inl rfl) (fun b u _ q => q) ⟨_, e2⟩
    ⟨by rw [List.length_map]; exact Nat.le_trans nl (by decide), its, n2, vals_ints ia, e2⟩
theorem pss_open {X : Cx} {st : List Stmt} {t : TS} (h : PSs X st t) : PSs X st (fun D σ H => ∃ g c, GenAt H g c ∧ ∀ i m cells, GenV i m cells → t D σ (opened H g c i m cells)) :=
  ⟨fun pins s σ H D I ⟨g, c, ga, hw⟩ => by
    obtain ⟨i, m, cells, v, I1⟩ := open_inv ga I
    exact h.run pins s σ _ D I1 (hw i m cells v)⟩
/-- a slot under a name that the text does not know -/
theorem Inv.ghost {X : Cx} {pins : List (Addr × Obj)} {σ : L2.St} {H : Hp} {s : Shared} {i : Nat} {o : Option V} (I : Inv X pins σ H s) (hi : ∀ x, X.N[i]? = some x → ¬ Vis X.env.scope x) : Inv X pins (σ.set i o) H s := by
  refine ⟨I.ok, I.os, I.bare, I.base, ?_, I.cell, I.free, I.freeC, I.pin, I.hok, by rw [List.length_set]; exact I.len⟩
  obtain ⟨m, hn, hl⟩ := I.loc
  refine ⟨m, hn, fun j x v e1 e2 e3 => ?_⟩
  by_cases hj : j = i
  · subst hj; exact absurd e3 (hi x e1)
  · rw [List.getElem?_set_ne (Ne.symm hj)] at e2; exact hl j x v e1 e2 e3
theorem pss_ghost {X : Cx} {st : List Stmt} {t : TS} {i : Nat} (hi : ∀ x, X.N[i]? = some x → ¬ Vis X.env.scope x) (h : PSs X st t) : PSs X st (fun D σ H => ∃ o, t D (σ.set i o) H) :=
  ⟨fun pins s σ H D I ⟨o, hw⟩ => h.run pins s _ H D (Inv.ghost I hi) hw⟩
/-- a name for what another slot holds -/
def sAdopt (i j : Nat) (c : CS) : CS := fun ρ W E => match ρ[i]?, ρ[j]? with
  | some (.sh (.raw (.ref p))), some (.ow d (some q)) => p = q ∧ i ≠ j ∧ c ((ρ.set j .no).set i (.ow d (some q))) W E
  | _, _ => False
section
variable {X : Cx} {E : Xn → Prop} {ss : List Stmt} {c : CS}
theorem rss_adopt {i j : Nat} (h : PSs X ss (rdS X.K E c)) : PSs X ss (rdS X.K E (sAdopt i j c)) := h.imp fun Dn σ H ⟨B, F0, F, ρ, W, re, h, l⟩ => by
  unfold sAdopt at h
  split at h
  · rename_i p d q ei ej
    obtain ⟨rfl, hij, h⟩ := h
    refine ⟨B, F0, F, _, W, ?_, h, l⟩
    obtain ⟨v, h1, x, rfl, rx⟩ := re.cell i _ ei
    cases rx
    obtain ⟨v, h2, p', rfl, hB, hF, hO, hz⟩ := re.cell j _ ej
    have ep := hz p rfl
    subst ep
    have r1 := re.forget j
    have hi : i < ρ.length := lt_of_at ei
    have r2 := r1.put i (o := some (.ref p')) (c := .ow d (some p')) ⟨p', rfl, hB, hF, hO, fun q z => by cases z; rfl⟩ fun d2 z2 p2 e1 e2 k e y hk ek es => by
      cases e1; cases e2
      rcases set_at ek with ⟨_, _, z⟩ | ⟨hkj, ek2⟩
      · cases z
      · exact re.dis k j e d y (some p') p' hkj ek2 ej es h2
    have es : σ.set i (some (.ref p')) = σ := by
      apply List.ext_getElem?
      intro k
      by_cases hk : i = k
      · subst hk
        rw [List.getElem?_set_self (by rw [re.len]; exact hi), h1]
      · rw [List.getElem?_set_ne hk]
    rw [es] at r2
    exact r2
  · exact h.elim
end

def begunM : List D → M D
  | [.scr _] => fun Q _ => Q .gen
  | _ => fail
def drawM : List D → M D
  | [.gen, .int n] => fun Q _ => (0 < n ∧ n < 2 ^ 30) ∧ ∀ k, 0 ≤ k → k < n → Q (.int k)
  | _ => fail
def BegunC (c : CS) (N : List Str) : Prop := ∀ (ns : List Int) (rt : D → Env → Prop) (E : Xn → Prop), (∀ (cells : List Int) ρ, GenV 0 1 cells → rt (.lst [.lst (cells.map .int), .int 0, .int 1]) ρ) → c (startE N [.scr ns]) { nx := fun _ => False, rt := rt } E
def DrawC (c : CS) : Prop := ∀ (g cc : Addr) (i m : Int) (cells : List Int) (n : Int) (rt : D → Env → Prop) (E : Xn → Prop), GenV i m cells → 0 < n → n < 2 ^ 30 →
  (∀ (k i' m' : Int) (cells' : List Int) (ρ : Env), 0 ≤ k → k < n → GenV i' m' cells' → ρ[0]? = some (.ow (.lst [.raw (.ref cc), .int i', .int m']) (some g)) → ρ[2]? = some (.ow (.lst (cells'.map .int)) (some cc)) → rt (.int k) ρ) →
  c [.ow (.lst [.raw (.ref cc), .int i, .int m]) (some g), .sh (.int n), .no, .no, .no, .ow (.lst (cells.map .int)) (some cc)] { nx := fun _ => False, rt := rt } E
section
variable {P : Program} {w : World} {K : PySem.W.Frag} {mg : Str → Option Value} {base : Heap} {k : Nat} {gl : List (Str × GV)}
theorem rep_ints {F : Hp} : ∀ {vs : List V} {ns : List Int}, RepL K F vs (ns.map D.int) → vs = ns.map V.int
  | [], [], _ => rfl
  | _, n :: ns, .cons r t => by cases r; rw [rep_ints t]; rfl
  | _ :: _, [], r => by cases r
theorem draw_ok {R : Rules} (O : RulesOk R) {n : Nat} {x qual : Str} {st : Stmt} {f : Addr} {fd : FuncData} {N : List Str} {a b : Str} {c1 c2 : CS} (F : Fun K x qual st f fd) (S : FnScope N [a, b] (defScope st)) (hN : N.length = 6)
    (gh : ∀ x, N[5]? = some x → (defScope st).names.lookup x = none) (hg : GlB P w K mg base k gl) (hl : 2 ≤ (defBody st).length)
    (h1 : ssOf (recN R n) (mkSg N (defScope st) gl [0, 2]) ((defBody st).take 1) = some c1) (h2 : ssOf (recN R n) (mkSg N (defScope st) gl [0, 2]) ((defBody st).drop 1) = some c2) (hm : DrawC (sSeq c1 (sAdopt 2 5 c2))) :
    FnG P w K mg base CX0 (k + 1) f fd [a, b] (SpM K 2 drawM) := by
  refine Fun.okG F S (fun vs H Q E h => h.1) (fun cdv A outer s H vs Q E hr gd h => ?_)
  obtain ⟨hn, F0, ds, QD, ED, sm, r, hq, kq⟩ := h
  obtain ⟨v0, v1, rfl⟩ := len2 hn
  obtain ⟨d0, d1, rfl, r0, r1⟩ := r.two
  have sg : SgOk (cxOf CX0 P w K mg base N qual (defScope st) f cdv A outer s H E) (mkSg N (defScope st) gl [0, 2]) := cx_ok (n := n) S hg hr gd
  cases r0 with
  | @gen g c ga =>
    cases r1 with
    | int nn =>
      obtain ⟨⟨hn0, hn1⟩, hk⟩ := hq
      cases hb : defBody st with
      | nil => rw [hb] at hl; exact absurd hl (by decide)
      | cons s1 rest =>
        rw [hb] at h1 h2
        have p1 := ssOf_ok (E := ED) (recN_ok O n) sg PassesOwn.leaving h1
        have p2 := ssOf_ok (E := ED) (recN_ok O n) sg PassesOwn.leaving h2
        have p1' : PS (cxOf CX0 P w K mg base N qual (defScope st) f cdv A outer s H E) s1 (rdS K ED c1) := (recN_ok O n).s sg PassesOwn.leaving h1
        have whole := rss_cons p1' (rss_adopt (i := 2) (j := 5) p2)
        refine ⟨_, pss_open (pss_ghost (i := 5) (fun x hx hv => ?_) (pss_post whole)), g, c, ⟨sm _ _ ga.1, sm _ _ ga.2.1, ga.2.2⟩, fun i m cells v => ⟨some (.ref c), ?_⟩⟩
        · have z := gh x hx
          have hv : Vis (defScope st) x := hv
          unfold Vis at hv
          rw [z] at hv
          rcases hv with q | q | q <;> cases q
        · have hgc := ga.2.2
          let B : Hp := fun b => if b = g ∨ b = c then none else H b
          have Bg : B g = none := if_pos (.inl rfl)
          have Bc : B c = none := if_pos (.inr rfl)
          have Bo : ∀ b u, B b = some u → b ≠ g ∧ b ≠ c ∧ H b = some u := fun b u e => by
            by_cases hbb : b = g ∨ b = c
            · rw [show B b = none from if_pos hbb] at e; cases e
            · rw [show B b = H b from if_neg hbb] at e; rw [not_or] at hbb; exact ⟨hbb.1, hbb.2, e⟩
          have og : (opened H g c i m cells) g = some (.lst [.ref c, .int i, .int m]) := by unfold opened; rw [upd_ne hgc, upd_same]
          have oc : (opened H g c i m cells) c = some (.lst (cells.map V.int)) := by unfold opened; rw [upd_same]
          have es : (L2.start N [V.ref g, V.int nn]).set 5 (some (.ref c)) = [some (.ref g), some (.int nn), none, none, none, some (.ref c)] := by
            unfold L2.start
            rw [hN]
            rfl
          rw [es]
          refine ⟨B, fun _ => none, fun _ => none, _, { nx := fun _ => False, rt := fun d ρ => ∃ (k i' m' : Int) (cells' : List Int), d = .int k ∧ 0 ≤ k ∧ k < nn ∧ GenV i' m' cells' ∧ ρ[0]? = some (.ow (.lst [.raw (.ref c), .int i', .int m']) (some g)) ∧ ρ[2]? = some (.ow (.lst (cells'.map .int)) (some c)) }, ?_,
            hm g c i m cells nn _ ED v hn0 hn1 fun k i' m' cells' ρ a b d e f => ⟨k, i', m', cells', rfl, a, b, d, e, f⟩, ?_⟩
          · refine ⟨fun b u e => ?_, Same.refl _, fun b u e => (by cases e), fun b u e => (by cases e), rfl, fun i' c' e => ?_, fun i1 i2 d e z y p hne e1 e2 e3 e4 => ?_⟩
            · obtain ⟨q1, q2, q3⟩ := Bo b u e
              unfold opened
              rw [upd_ne q2, upd_ne q1]; exact q3
            · match i', e with
              | 0, e => cases e; exact ⟨_, rfl, g, rfl, Bg, rfl, ⟨_, og, .cons (.raw _) (.cons (.int _) (.cons (.int _) .nil))⟩, fun q z => by cases z; rfl⟩
              | 1, e => cases e; exact ⟨_, rfl, _, rfl, .int nn⟩
              | 2, e => cases e; exact ⟨_, rfl, trivial⟩
              | 3, e => cases e; exact ⟨_, rfl, trivial⟩
              | 4, e => cases e; exact ⟨_, rfl, trivial⟩
              | 5, e => cases e; exact ⟨_, rfl, c, rfl, Bc, rfl, ⟨_, oc, repL_intsD _⟩, fun q z => by cases z; rfl⟩
              | n + 6, e => cases e
            · match i1, e1, e3 with
              | 0, e1, e3 =>
                cases e3
                match i2, e2, e4 with
                | 0, e2, e4 => exact hne rfl
                | 5, e2, e4 => cases e4; exact hgc rfl
              | 5, e1, e3 =>
                cases e3
                match i2, e2, e4 with
                | 0, e2, e4 => cases e4; exact hgc rfl
                | 5, e2, e4 => exact hne rfl
          · refine ⟨fun σ' H' F' ρ' re q => (show False from q).elim, fun v' σ' H' F' ρ' d re rp q => ?_, fun σ' H' F' ρ' re q => (show False from q).elim, fun σ' H' F' ρ' re q => (show False from q).elim, fun _ _ _ _ _ _ _ _ _ _ q => (show False from q).elim⟩
            obtain ⟨k', i', m', cells', rfl, k0, k1, gv, e0, e2⟩ := q
            obtain ⟨_, _, p0, rfl, _, _, ⟨vs0, q0, l0⟩, z0⟩ := re.cell 0 _ e0
            obtain ⟨_, _, p2, rfl, _, _, ⟨vs2, q2, l2⟩, z2⟩ := re.cell 2 _ e2
            have := z0 g rfl
            subst this
            have := z2 c rfl
            subst this
            have l2' := rep_ints l2
            subst l2'
            obtain ⟨x1, x2, x3, rfl, y1, y2, y3⟩ : ∃ x1 x2 x3, vs0 = [x1, x2, x3] ∧ Rep K F' x1 (.raw (.ref p2)) ∧ Rep K F' x2 (.int i') ∧ Rep K F' x3 (.int m') := by
              cases l0 with | cons a t => cases t with | cons b t => cases t with | cons d t => cases t; exact ⟨_, _, _, rfl, a, b, d⟩
            cases y1; cases y2; cases y3
            cases rp
            refine ⟨_, rlx_close q0 q2 hgc gv, kq _ _ F0 (.int k') ⟨fun b u e => ?_, Same.refl F0, fun b u e => ?_, fun _ _ e => .inl e⟩ (Val.of (.int k')) (hk k' k0 k1)⟩
            all_goals
              have eH : H b = some u := by first | exact e | exact sm _ _ e
              by_cases h1 : b = p2
              · subst h1
                rw [upd_same, ← eH]
                exact (sm _ _ ga.2.1).symm
              · rw [upd_ne h1]
                by_cases h2 : b = p0
                · subst h2
                  rw [upd_same, ← eH]
                  exact (sm _ _ ga.1).symm
                · rw [upd_ne h2]
                  refine re.bh b u ?_
                  show (if b = p0 ∨ b = p2 then none else H b) = some u
                  rw [if_neg (by rw [not_or]; exact ⟨h2, h1⟩)]
                  exact eH
    | _ => exact (show False from hq).elim
  | _ => exact (show False from hq).elim
end
end DL

namespace DL
open PySem L2

section
variable {P : Program} {w : World} {K : PySem.W.Frag} {mg : Str → Option Value} {base : Heap} {k : Nat} {gl : List (Str × GV)}
theorem begun_ok {R : Rules} (O : RulesOk R) {n : Nat} {x qual : Str} {st : Stmt} {f : Addr} {fd : FuncData} {N : List Str} {a : Str} {c : CS} (F : Fun K x qual st f fd) (S : FnScope N [a] (defScope st)) (hg : GlB P w K mg base k gl)
    (he : ssOf (recN R n) (mkSg N (defScope st) gl []) (defBody st) = some c) (hm : BegunC c N) : FnG P w K mg base CX0 (k + 1) f fd [a] (SpM K 1 begunM) := by
  refine Fun.okG F S (fun vs H Q E h => h.1) (fun cdv A outer s H vs Q E hr gd h => ?_)
  obtain ⟨hn, F0, ds, QD, ED, sm, r, hq, kq⟩ := h
  obtain ⟨v0, rfl⟩ := len1 hn
  obtain ⟨d0, rfl, r0⟩ := r.one
  cases r0 with
  | @scr a ns sa =>
    have hq : QD .gen := hq
    let F1 : Hp := fun b => match F0 b with | some (.frz o u) => some (.frz o u) | _ => none
    have f1 : ∀ b u, F1 b = some u → F0 b = some u ∧ ∃ o y, u = .frz o y := fun b u e => by
      have e : (match F0 b with | some (.frz o u) => some (HO.frz o u) | _ => none) = some u := e
      split at e
      · rename_i o y q; cases e; exact ⟨q, o, y, rfl⟩
      · cases e
    have s1 : Same F1 H := fun b u e => sm _ _ (f1 b u e).1
    have sa1 : ScrAt K F1 a (ns.map V.int) := by
      rcases sa with ⟨o, h⟩ | h
      · refine .inl ⟨o, ?_⟩
        show (match F0 a with | some (.frz o u) => some (HO.frz o u) | _ => none) = _
        rw [h]
      · exact .inr h
    refine ⟨_, pss_post (ssOf_ok (E := ED) (recN_ok O n) (cx_ok (n := n) S hg hr gd) PassesOwn.leaving he), H, F1, F1, startE N [.scr ns],
      { nx := fun _ => False, rt := fun d _ => ∃ cells : List Int, d = .lst [.lst (cells.map .int), .int 0, .int 1] ∧ GenV 0 1 cells }, start_env s1 (.cons (.scr sa1) .nil), hm ns _ ED fun cells ρ v => ⟨cells, rfl, v⟩, ?_⟩
    refine ⟨fun σ' H' F' ρ' re q => (show False from q).elim, fun v' σ' H' F' ρ' d re rp q => ?_, fun σ' H' F' ρ' re q => (show False from q).elim, fun σ' H' F' ρ' re q => (show False from q).elim, fun _ _ _ _ _ _ _ _ _ _ q => (show False from q).elim⟩
    obtain ⟨cells, rfl, gv⟩ := q
    cases rp with
    | @lst g vs _ hg l =>
      obtain ⟨x1, x2, x3, rfl, y1, y2, y3⟩ : ∃ x1 x2 x3, vs = [x1, x2, x3] ∧ Rep K F' x1 (.lst (cells.map .int)) ∧ Rep K F' x2 (.int 0) ∧ Rep K F' x3 (.int 1) := by
        cases l with | cons a t => cases t with | cons b t => cases t with | cons d t => cases t; exact ⟨_, _, _, rfl, a, b, d⟩
      cases y2; cases y3
      cases y1 with
      | @lst c ws _ hc l2 =>
        have l2' := rep_ints l2
        subst l2'
        have new : ∀ b xs, F' b = some (.lst xs) → H b = none := fun b xs e => by
          rcases re.fr b _ e with q | q
          · obtain ⟨_, o, y, z⟩ := f1 b _ q; cases z
          · exact q
        have ng := new _ _ hg
        have nc := new _ _ hc
        have hgc : g ≠ c := fun e => by
          subst e
          rw [hg] at hc
          have z := Option.some.inj hc
          have z := HO.lst.inj z
          cases cells with
          | nil => cases z
          | cons x xs => rw [List.map_cons] at z; cases (List.cons.inj z).1
        have q0 := re.fh _ _ hg
        have q2 := re.fh _ _ hc
        let F2 : Hp := fun b => if b = c then some (.ext (cellsO c)) else if b = g then some (.ext (genO g c)) else F0 b
        have Fo : ∀ b, b ≠ g → b ≠ c → F2 b = F0 b := fun b h1 h2 => by show (if b = c then _ else if b = g then _ else _) = _; rw [if_neg h2, if_neg h1]
        have Fg : F2 g = some (.ext (genO g c)) := by show (if g = c then _ else if g = g then _ else _) = _; rw [if_neg hgc, if_pos rfl]
        have Fc : F2 c = some (.ext (cellsO c)) := if_pos rfl
        have old : ∀ b u, H b = some u → b ≠ g ∧ b ≠ c := fun b u e => ⟨fun z => (by rw [z, ng] at e; cases e), fun z => (by rw [z, nc] at e; cases e)⟩
        have Ho : ∀ b, b ≠ g → b ≠ c → (upd (upd H' g (.ext (genO g c))) c (.ext (cellsO c))) b = H' b := fun b h1 h2 => by rw [upd_ne h2, upd_ne h1]
        refine ⟨_, rlx_close q0 q2 hgc gv, kq _ _ F2 .gen ⟨fun b u e => ?_, fun b u e => ?_, fun b u e => ?_, fun b u e => ?_⟩ (Val.of (.gen ⟨Fg, Fc, hgc⟩)) hq⟩
        · obtain ⟨h1, h2⟩ := old b u e
          rw [Ho b h1 h2]; exact re.bh b u e
        · obtain ⟨h1, h2⟩ := old b u (sm _ _ e)
          rw [Fo b h1 h2]; exact e
        · by_cases h2 : b = c
          · subst h2; rw [Fc] at e; rw [upd_same]; exact e
          · by_cases h1 : b = g
            · subst h1; rw [Fg] at e; rw [upd_ne h2, upd_same]; exact e
            · rw [Fo b h1 h2] at e
              rw [Ho b h1 h2]
              exact re.bh b u (sm _ _ e)
        · by_cases h2 : b = c
          · subst h2; exact .inr nc
          · by_cases h1 : b = g
            · subst h1; exact .inr ng
            · rw [Fo b h1 h2] at e; exact .inl e
  | _ => exact (show False from hq).elim
end
/-- the law's def -/
def lawM : List D → M D
  | [.scr _] => fun Q _ => Q (.bl true)
  | _ => fail
theorem law_sp (n : Nat) : ∀ (K : PySem.W.Frag) (H : Hp) (a : Addr) (ns : List Int), ns.length ≤ n → Only H → SqL K H a (ns.map V.int) → SpM K 1 lawM [.ref a] H (fun v _ => v = .bl true) fun _ _ _ => False := by
  intro K H a ns _ only sq
  refine ⟨rfl, H, [.scr ns], fun d => d = .bl true, fun _ => False, Same.refl H, .cons (.scr ?_) .nil, rfl, fun v H' F' d g r q => ?_⟩
  · rcases sq with (h | h) | h
    · rcases only a with z | ⟨ob, xs, z⟩
      · rw [z] at h; cases h
      · rw [z] at h; cases h
    · exact .inl h
    · exact .inr h
  · subst q; cases r.rep; rfl

/-! ### a tuple to a tuple that is not stored name by name -/
def noSwapB (g : Sg) (ts vs : List Expr) : Bool :=
  !(ts.length == 2 || ts.length == 3) || vs.length != ts.length || (!(vs.any isStar) && ((ts.filterMap fun
    | .Name id pos => if (match g.sc.names.lookup id with | some .local => true | _ => false) && pos.line == (ts.head?.map (·.pos.line)).getD 0 then some id else none
    | _ => none).length != ts.length))
theorem stores_noB {X : Cx} {g : Sg} (ok : SgOk X g) {ts vs : List Expr} {k k2 : Nat} {p p2 : Pos} (h : noSwapB g ts vs = true) : swappedStores [.Tuple ts k p] (.Tuple vs k2 p2) X.env = pure none := by
  have hk : X.env.scope.kind = .function := by rw [ok.sc]; exact ok.kind
  have hb : X.env.blockKind = .function := by unfold PySem.Env.blockKind; rw [hk]; rfl
  have kn : ∀ x, (match g.sc.names.lookup x with | some .local => true | _ => false) = (X.env.kindOf x == some .local) := fun x => by
    show _ = (X.env.scope.names.lookup x == some .local)
    rw [ok.sc]
    cases g.sc.names.lookup x with
    | none => rfl
    | some k => cases k <;> rfl
  unfold noSwapB at h
  simp only [kn] at h
  unfold swappedStores
  simp only [hb]
  show (if (!(ts.length == 2 || ts.length == 3) || vs.length != ts.length || (ScopeKind.function != ScopeKind.function)) = true then pure none else _) = _
  split
  · rfl
  · rename_i h1
    have h2 : (!(ts.length == 2 || ts.length == 3) || vs.length != ts.length) = false := by
      cases q : (!(ts.length == 2 || ts.length == 3) || vs.length != ts.length) with
      | false => rfl
      | true => rw [q] at h1; exact absurd rfl h1
    rw [h2, Bool.false_or, Bool.and_eq_true] at h
    obtain ⟨h3, h4⟩ := h
    have h3 : vs.any isStar = false := by simpa using h3
    show (if vs.any isStar = true then pure none else _) = _
    rw [h3, if_neg Bool.false_ne_true]
    have : ∀ (names : List Str) (rest : Sem (Option (List Str))), (names.length != ts.length) = true → (if (names.length != ts.length || names.eraseDups.length != names.length) = true then pure none else rest) = (pure none : Sem (Option (List Str))) := fun names rest q => by
      rw [q, Bool.true_or, if_pos rfl]
    exact this _ _ h4
def sTup2 : SR := fun r g st => match st with
  | .Assign [.Tuple ts k p] (.Tuple vs k2 p2) _ => if noSwapB g ts vs = true then match gOf g 6 (.Tuple ts k p), fOf r g (.Tuple vs k2 p2) with
    | some (_, gg), some x => some (sAsg gg x)
    | _, _ => none else none
  | _ => none
theorem sTup2_ok : SrOk sTup2 := by
  intro r R X g E st c ok hp h
  unfold sTup2 at h
  split at h
  · split at h
    · rename_i hn
      split at h
      · rename_i sl gg x h1 h2
        cases h
        exact rs_asg (fOf_ok R ok h2) (gOf_ok (p := (sl, gg)) ok h1) (by unfold swapsWithSole; exact noComp_sw rfl _ _) (stores_noB ok hn) rfl
      · cases h
    · cases h
  · cases h

def noM : List D → M (D × Bool) := fun _ => fail
theorem b_no {X : Cx} {T : String} : CallR X (.type T) (rcM X.K noM) := by
  intro pins s σ H xs us Q I r ⟨_, _, _, _, _, _, h, _⟩
  exact (show False from h).elim
end DL

namespace DL
open PySem L2

/-! ### reckoning with the mirrors -/
section
variable {i j : Int} {x y : D} {xs ys ds : List D} {a b : Str}
theorem bin_addI : binM .Add (.int i) (.int j) = ret (.int (i + j), false) := rfl
theorem bin_subI : binM .Sub (.int i) (.int j) = ret (.int (i - j), false) := rfl
theorem bin_mulI : binM .Mult (.int i) (.int j) = fun Q _ => CMul i j ∧ Q (.int (i * j), false) := rfl
theorem bin_divI : binM .FloorDiv (.int i) (.int j) = fun Q _ => CDiv i j ∧ Q (.int (i / j), false) := rfl
theorem bin_modI : binM .Mod (.int i) (.int j) = fun Q _ => 0 < j ∧ Q (.int (i % j), false) := rfl
theorem bin_powI : binM .Pow (.int i) (.int j) = fun Q _ => CPow i j ∧ Q (.int (i ^ j.toNat), false) := rfl
theorem bin_addS : binM .Add (.str a) (.str b) = fun Q _ => a.length + b.length ≤ sizeLine ∧ Q (.str (a ++ b), false) := rfl
theorem bin_addL : binM .Add (.lst xs) (.lst ys) = fun Q _ => xs.length + ys.length ≤ sizeLine ∧ Q (.lst (xs ++ ys), true) := rfl
theorem bin_addT : binM .Add (.tup xs) (.tup ys) = fun Q _ => xs.length + ys.length ≤ sizeLine ∧ Q (.tup (xs ++ ys), false) := rfl
theorem bin_mulL : binM .Mult (.lst xs) (.int i) = fun Q _ => (-(2 ^ 63) ≤ i ∧ i < 2 ^ 63 ∧ xs.length * i.toNat ≤ sizeLine) ∧ Q (.lst (List.replicate i.toNat xs).flatten, true) := rfl
theorem bin_mulT : binM .Mult (.tup xs) (.int i) = fun Q _ => xs ≠ [] ∧ 2 ≤ i ∧ i ≤ 1000 ∧ xs.length ≤ 1000 ∧ Q (.tup (List.replicate i.toNat xs).flatten, false) := rfl
theorem bin_mulS : binM .Mult (.str a) (.int i) = fun Q _ => MulOk a i ∧ Q (.str (Txt.mul a i), false) := rfl
theorem cmp_eq : cmpM .Eq x y = eqM x y := rfl
theorem cmp_ne : cmpM .NotEq x y = bnd (eqM x y) fun b => ret (!b) := rfl
theorem cmp_lt : cmpM .Lt (.int i) (.int j) = ret (decide (i < j)) := rfl
theorem cmp_le : cmpM .LtE (.int i) (.int j) = ret (decide (i ≤ j)) := rfl
theorem cmp_gt : cmpM .Gt (.int i) (.int j) = ret (decide (j < i)) := rfl
theorem cmp_ge : cmpM .GtE (.int i) (.int j) = ret (decide (j ≤ i)) := rfl
theorem cmp_is : cmpM .Is x .non = isNon x := rfl
theorem cmp_isnt : cmpM .IsNot x .non = bnd (isNon x) fun b => ret (!b) := rfl
theorem cmp_inS : cmpM .In (.str a) (.str b) = ret (inStr a b) := rfl
theorem cmp_ninS : cmpM .NotIn (.str a) (.str b) = ret (!inStr a b) := rfl
theorem eq_int : eqM (.int i) (.int j) = fun Q _ => Q (i == j) := rfl
theorem eq_str : eqM (.str a) (.str b) = fun Q _ => Q (a == b) := rfl
theorem ix_lst : ixM (.lst ds) (.int i) = fun Q _ => match atI ds i with | some d => Q d | none => False := rfl
theorem ix_tup : ixM (.tup ds) (.int i) = fun Q _ => match atI ds i with | some d => Q d | none => False := rfl
theorem tru_bl {k : Bool} : truM (.bl k) = ret k := rfl
theorem tru_lst : truM (.lst ds) = ret (!ds.isEmpty) := rfl
theorem tru_tup : truM (.tup ds) = ret (!ds.isEmpty) := rfl
theorem tru_int : truM (.int i) = ret (i != 0) := rfl
theorem tru_non : truM .non = ret false := rfl
theorem non_non : isNon .non = ret true := rfl
theorem non_int : isNon (.int i) = ret false := rfl
theorem non_str : isNon (.str a) = ret false := rfl
theorem non_bl {k : Bool} : isNon (.bl k) = ret false := rfl
theorem non_lst : isNon (.lst ds) = ret false := rfl
theorem non_tup : isNon (.tup ds) = ret false := rfl
theorem at_zero : atI (x :: xs) 0 = some x := by
  unfold atI ixN
  rw [if_pos (Int.le_refl 0), if_pos (by rw [List.length_cons]; omega)]; rfl
theorem at_one : atI (x :: y :: xs) 1 = some y := by
  unfold atI ixN
  rw [if_pos (by decide), if_pos (by rw [List.length_cons, List.length_cons]; omega)]; rfl
theorem at_two {z : D} : atI (x :: y :: z :: xs) 2 = some z := by
  unfold atI ixN
  rw [if_pos (by decide), if_pos (by rw [List.length_cons, List.length_cons, List.length_cons]; omega)]; rfl
theorem at_nat {n : Nat} (h : n < ds.length) : atI ds (n : Int) = some ds[n] := by
  unfold atI ixN
  rw [if_pos (by omega), if_pos (by omega)]
  show ds[(n : Int).toNat]? = _
  rw [Int.toNat_natCast, List.getElem?_eq_getElem h]
theorem at_last {h : ds ≠ []} : atI ds (-1) = some (ds.getLast h) := by
  have hl := List.length_pos_iff.mpr h
  unfold atI ixN
  rw [if_neg (by decide), if_pos (by omega)]
  show ds[(-1 + (ds.length : Int)).toNat]? = _
  have e : (-1 + (ds.length : Int)).toNat = ds.length - 1 := by omega
  rw [e, List.getElem?_eq_getElem (by omega), List.getLast_eq_getElem]
end
local macro_rules | `(tactic| walk_at "dl") => `(tactic| simp only [ret, fail, bnd, frz, cC, cVar, bVar, cBin, cNeg, cNot, cAnd, cOr, cIf, vT, tCm, tCh, tTru, tNo, tAn, tOr', cNil, cCons, cTup, cLst, cIx, oNo, oIs, cSl, cCall, callD, cCallK, cB, sNil, sSeq, sDrop, sSet, sAsg, sPar, sRet, sRetN, sIf, sBrk, sCnt, sNo, sFor, sFrz, sApp, sPut, sSetU, uOf, uPop, uPopAt, isOwL, sAdopt,
  gNm, gTp, gsCons, gsNil, tYesD, cLc, iSeq, iRng, iEn, cIsi, cLRg, cBest, cel, lenM, absM, listM, tupleM, itemsM, enumM, rgsM,
  bin_addI, bin_subI, bin_mulI, bin_divI, bin_modI, bin_powI, bin_addS, bin_addL, bin_addT, bin_mulL, bin_mulT, bin_mulS, cmp_eq, cmp_ne, cmp_lt, cmp_le, cmp_gt, cmp_ge, cmp_is, cmp_isnt, cmp_inS, cmp_ninS, eq_int, eq_str, ix_lst, ix_tup, tru_bl, tru_lst, tru_tup, tru_int, tru_non, non_non, non_int, non_str, non_bl, non_lst, non_tup, at_zero, at_one, at_two,
  List.getElem?_cons_zero, List.getElem?_cons_succ, List.set_cons_zero, List.set_cons_succ, Bool.false_and, Bool.true_and, Bool.and_false, Bool.and_true, Bool.false_eq_true, if_true, if_false, ite_true, ite_false, List.length_cons, List.length_nil, List.length_map, true_and, and_true, ne_eq, not_true_eq_false, not_false_eq_true, reduceCtorEq, Nat.reduceAdd, Nat.zero_add, *])

theorem at_ints {cells : List Int} {a : Int} (h0 : 0 ≤ a) (h1 : a < cells.length) : atI (cells.map D.int) a = some (.int (cells.getD a.toNat 0)) := by
  unfold atI ixN
  rw [List.length_map, if_pos h0, if_pos h1, Option.bind_some, List.getElem?_map, List.getD_eq_getElem?_getD, List.getElem?_eq_getElem (by omega)]
  rfl
theorem ix_nn {n : Nat} {a : Int} (h0 : 0 ≤ a) (h1 : a < n) : ixN n a = some a.toNat := by
  unfold ixN; rw [if_pos h0, if_pos h1]
theorem getD_mem {cells : List Int} {i : Nat} (h : i < cells.length) : cells.getD i 0 ∈ cells := by
  rw [List.getD_eq_getElem?_getD, List.getElem?_eq_getElem h]; exact List.getElem_mem h
theorem mod_lt' {a b : Int} (h : 0 < b) : 0 ≤ a % b ∧ a % b < b := ⟨Int.emod_nonneg _ (by omega), Int.emod_lt_of_pos _ h⟩
def thrOk (thr : CB) : Prop := ∀ ρ Q E, Q (.int 1000000000000000000) → thr ρ Q E
def mixOk (mix : CB) : Prop := ∀ (cc g : Addr) (i m n at' cell : Int) (cs : List D) (Q : D → Prop) (E : Xn → Prop), 0 ≤ m → m < 2147483647 → (∀ v, Q (.int v)) →
  mix [.ow (.lst [.raw (.ref cc), .int i, .int m]) (some g), .sh (.int n), .ow (.lst cs) (some cc), .sh (.int at'), .sh (.int cell), .no] Q E
def endOk (fin : CB) : Prop := ∀ (cc g : Addr) (i m n at' cell : Int) (cs : List D) (Q : D → Prop) (E : Xn → Prop), 0 ≤ m → m < 2147483647 → 0 < n → (∀ v, 0 ≤ v → v < n → Q (.int v)) →
  fin [.ow (.lst [.raw (.ref cc), .int i, .int m]) (some g), .sh (.int n), .ow (.lst cs) (some cc), .sh (.int at'), .sh (.int cell), .no] Q E
theorem draw_std {thr mix fin b1 b2 : CB} (ht : thrOk thr) (hx : mixOk mix) (hf : endOk fin)
    (h1 : ∀ (s g c : Cell) (n a x : Int) (l : Cell) Q E, 0 < n → n < 2 ^ 30 → Q (.int (x / n)) → b1 [s, .sh (.int n), c, .sh (.int a), .sh (.int x), l] Q E) (h2 : ∀ (s g c : Cell) (n a x : Int) (l : Cell) Q E, 0 < n → Q (.int (x % n)) → b2 [s, .sh (.int n), c, .sh (.int a), .sh (.int x), l] Q E) :
    DrawC (sSeq (sSet 2 true (cIx (bVar 0) (frz (cC (.int 0))))) (sAdopt 2 5 (sSeq (sSet 3 false (cBin .Mod (frz (cIx (bVar 0) (frz (cC (.int 1))))) (frz (cB lenM (cCons (bVar 2) (cNil)))))) (sSeq (sSet 4 false (cIx (bVar 2) (bVar 3)))
      (sSeq (sIf (tCm .GtE (bVar 4) thr) (sSeq (sPut 2 b1 (frz (cVar 3))) (sRet b2)) (sNil))
        (sSeq (sPut 0 (frz (cBin .Add (frz (cIx (bVar 0) (frz (cC (.int 1))))) (frz (cC (.int 1))))) (frz (cC (.int 1)))) (sSeq (sPut 0 (frz (cBin .Mod mix (frz (cC (.int 2147483647))))) (frz (cC (.int 2)))) (sRet fin)))))))) := by
  intro g cc i m cells n rt E gv n0 n1 k
  have hlen : 0 < cells.length := List.length_pos_iff.mpr gv.ne
  have hl : (0 : Int) < cells.length := by omega
  obtain ⟨a0, a1⟩ := mod_lt' (a := i) hl
  have e3 : ixN 3 1 = some 1 := rfl
  have e4 : ixN 3 2 = some 2 := rfl
  have ec := at_ints a0 a1
  have ei := ix_nn a0 a1
  have hmem := getD_mem (cells := cells) (i := (i % (cells.length : Int)).toNat) (by omega)
  generalize hcell : cells.getD (i % (cells.length : Int)).toNat 0 = cell at ec hmem
  have c0 := gv.pos _ hmem
  clear hcell
  walk_at "dl"
  refine ⟨by decide, ht _ _ _ ?_⟩
  walk_at "dl"
  by_cases hc : (1000000000000000000 : Int) ≤ cell
  · rw [decide_eq_true hc]
    walk_at "dl"
    refine h1 _ (.no) _ _ _ _ _ _ _ n0 n1 ?_
    try walk_at "dl"
    refine h2 _ (.no) _ _ _ _ _ _ _ n0 ?_
    obtain ⟨q0, q1⟩ := mod_lt' (a := cell) n0
    have ed : (cells.map D.int).set (i % (cells.length : Int)).toNat (.int (cell / n)) = (cells.set (i % (cells.length : Int)).toNat (cell / n)).map D.int := by rw [List.map_set]
    rw [ed]
    refine k _ i m _ _ q0 q1 ⟨gv.i0, gv.m0, gv.m1, ?_, fun x hx => ?_, by rw [List.length_set]; exact gv.len⟩ rfl rfl
    · intro z
      have := congrArg List.length z
      rw [List.length_set] at this
      have hl := List.length_pos_iff.mpr gv.ne
      rw [this] at hl; exact absurd hl (by decide)
    · rcases List.mem_or_eq_of_mem_set hx with hx | hx
      · exact gv.pos _ hx
      · rw [hx]; exact Int.ediv_nonneg c0 (by omega)
  · rw [decide_eq_false hc]
    walk_at "dl"
    refine hx cc g _ m n _ cell _ _ _ gv.m0 gv.m1 fun v => ?_
    walk_at "dl"
    refine ⟨by decide, ?_⟩
    obtain ⟨v0, v1⟩ := mod_lt' (a := v) (b := 2147483647) (by decide)
    refine hf cc g _ _ n _ cell _ _ _ v0 v1 n0 fun u u0 u1 => ?_
    exact k u _ _ _ _ u0 u1 ⟨by have := gv.i0; omega, v0, v1, gv.ne, gv.pos, gv.len⟩ rfl rfl
/-- the forms in which the draws are written -/
abbrev S (i : Int) : CB := frz (cIx (bVar 0) (frz (cC (.int i))))
abbrev L (i : Int) : CB := frz (cC (.int i))
abbrev mixA : CB := frz (cBin .Add (frz (cBin .Add (frz (cBin .Add (frz (cBin .Mult (S 2) (L 48271))) (bVar 4))) (L 12345))) (frz (cBin .Mult (L 7919) (S 1))))
abbrev mixB : CB := frz (cBin .Add (frz (cBin .Add (frz (cBin .Add (frz (cBin .Mult (S 2) (L 48271))) (bVar 4))) (frz (cBin .Mult (L 7919) (S 1))))) (L 12345))
abbrev mixC : CB := frz (cBin .Add (frz (cBin .Add (frz (cBin .Add (frz (cBin .Mult (S 2) (L 48271))) (bVar 4))) (L 12345))) (S 1))
abbrev finA : CB := frz (cBin .Mod (frz (cBin .FloorDiv (frz (cBin .Mod (frz (cBin .Mult (S 2) (S 2))) (L 2147483629))) (L 16))) (bVar 1))
abbrev thrA : CB := L 1000000000000000000
abbrev thrB : CB := frz (cBin .Pow (L 10) (L 18))
theorem thrA_ok : thrOk thrA := fun ρ Q E h => h
theorem thrB_ok : thrOk thrB := fun ρ Q E h => ⟨⟨by decide, by decide, by decide⟩, h⟩
theorem mixA_ok : mixOk mixA := by
  intro cc g i m n a cell cs Q E m0 m1 h
  walk_at "dl"
  exact ⟨.inr ⟨by decide, by decide⟩, .inl ⟨by decide, by decide⟩⟩
theorem mixB_ok : mixOk mixB := by
  intro cc g i m n a cell cs Q E m0 m1 h
  walk_at "dl"
  exact ⟨.inr ⟨by decide, by decide⟩, .inl ⟨by decide, by decide⟩⟩
theorem mixC_ok : mixOk mixC := by
  intro cc g i m n a cell cs Q E m0 m1 h
  walk_at "dl"
  exact .inr ⟨by decide, by decide⟩
theorem finA_ok : endOk finA := by
  intro cc g i m n a cell cs Q E m0 m1 n0 h
  walk_at "dl"
  refine ⟨.inl ⟨by omega, by omega⟩, by decide, ⟨by decide, by decide⟩, ?_⟩
  obtain ⟨q0, q1⟩ := mod_lt' (a := m * m % 2147483629 / 16) n0
  exact h _ q0 q1
end DL

namespace DL
open PySem L2
local macro_rules | `(tactic| walk_at "dl") => `(tactic| simp only [ret, fail, bnd, frz, cC, cVar, bVar, cBin, cNeg, cNot, cAnd, cOr, cIf, vT, tCm, tCh, tTru, tNo, tAn, tOr', cNil, cCons, cTup, cLst, cIx, oNo, oIs, cSl, cCall, callD, cCallK, cB, sNil, sSeq, sDrop, sSet, sAsg, sPar, sRet, sRetN, sIf, sBrk, sCnt, sNo, sFor, sFrz, sApp, sPut, sSetU, uOf, uPop, uPopAt, isOwL, sAdopt,
  gNm, gTp, gsCons, gsNil, tYesD, cLc, iSeq, iRng, iEn, cIsi, cLRg, cBest, cel, lenM, absM, listM, tupleM, itemsM, enumM, rgsM,
  bin_addI, bin_subI, bin_mulI, bin_divI, bin_modI, bin_powI, bin_addS, bin_addL, bin_addT, bin_mulL, bin_mulT, bin_mulS, cmp_eq, cmp_ne, cmp_lt, cmp_le, cmp_gt, cmp_ge, cmp_is, cmp_isnt, cmp_inS, cmp_ninS, eq_int, eq_str, ix_lst, ix_tup, tru_bl, tru_lst, tru_tup, tru_int, tru_non, non_non, non_int, non_str, non_bl, non_lst, non_tup, at_zero, at_one, at_two,
  List.getElem?_cons_zero, List.getElem?_cons_succ, List.set_cons_zero, List.set_cons_succ, Bool.false_and, Bool.true_and, Bool.and_false, Bool.and_true, Bool.false_eq_true, if_true, if_false, ite_true, ite_false, List.length_cons, List.length_nil, List.length_map, true_and, and_true, ne_eq, not_true_eq_false, not_false_eq_true, reduceCtorEq, Nat.reduceAdd, Nat.zero_add, *])

/-! ### comprehensions and loops -/
theorem lc_rel {g : CG} {t : CT} {e : CB} {ρ : Env} {E : Xn → Prop} (st : D → Env) (keep : D → Bool) (P : D → D → Prop) : ∀ {ds : List D} {Q : List D → Prop}, (∀ d ∈ ds, ∀ Q, Q (st d) → g d ρ Q E) → (∀ d ∈ ds, ∀ Q : Bool → Prop, Q (keep d) → t (st d) Q E) →
    (∀ d ∈ ds, keep d = true → ∀ Q : D → Prop, (∀ x, P d x → Q x) → e (st d) Q E) → (∀ rs, Paired P (ds.filter keep) rs → Q rs) → lcM g t e ρ ds Q E
  | [], Q, _, _, _, hQ => hQ [] .nil
  | d :: ds, Q, hg, ht, he, hQ => by
    unfold lcM
    refine hg d List.mem_cons_self _ (ht d List.mem_cons_self _ ?_)
    have tl := fun (Q' : List D → Prop) => lc_rel st keep P (ds := ds) (Q := Q') (fun d hd => hg d (List.mem_cons_of_mem _ hd)) (fun d hd => ht d (List.mem_cons_of_mem _ hd)) (fun d hd => he d (List.mem_cons_of_mem _ hd))
    cases hk : keep d with
    | true =>
      show bnd (e (st d)) _ Q E
      refine he d List.mem_cons_self hk _ fun x px => tl _ fun rs hr => hQ _ ?_
      rw [List.filter_cons, if_pos hk]
      exact .cons px hr
    | false =>
      show lcM g t e ρ ds Q E
      refine tl _ fun rs hr => hQ _ ?_
      rw [List.filter_cons, if_neg (by rw [hk]; exact Bool.false_ne_true)]
      exact hr
theorem pair_map {f : D → D} : ∀ {ds rs : List D}, Paired (fun d x => x = f d) ds rs → rs = ds.map f
  | _, _, .nil => rfl
  | _, _, .cons h t => by rw [List.map_cons, ← pair_map t, h]
theorem lc_fun {g : CG} {t : CT} {e : CB} {ρ : Env} {E : Xn → Prop} (st : D → Env) (keep : D → Bool) (f : D → D) {ds : List D} {Q : List D → Prop} (hg : ∀ d ∈ ds, ∀ Q, Q (st d) → g d ρ Q E) (ht : ∀ d ∈ ds, ∀ Q : Bool → Prop, Q (keep d) → t (st d) Q E)
    (he : ∀ d ∈ ds, keep d = true → ∀ Q : D → Prop, Q (f d) → e (st d) Q E) (hQ : Q ((ds.filter keep).map f)) : lcM g t e ρ ds Q E :=
  lc_rel st keep (fun d x => x = f d) hg ht (fun d hd hk Q h => he d hd hk Q (h _ rfl)) fun rs hr => by rw [pair_map hr]; exact hQ
theorem lc_map {i : Nat} {e : CB} {ρ : Env} {E : Xn → Prop} (f : D → D) {ds : List D} {Q : List D → Prop} (he : ∀ d ∈ ds, ∀ Q : D → Prop, Q (f d) → e (ρ.set i (.sh d)) Q E) (hQ : Q (ds.map f)) : lcM (gNm i) tYesD e ρ ds Q E :=
  lc_fun (fun d => ρ.set i (.sh d)) (fun _ => true) f (fun d _ Q h => h) (fun d _ Q h => h) (fun d hd _ Q h => he d hd Q h) (by rw [List.filter_eq_self.mpr fun _ _ => rfl]; exact hQ)
theorem for_inv {g : CG} {b : CS} {E : Xn → Prop} {W : EndD} (I : Nat → Env → Prop) : ∀ {ds : List D} {k : Nat} {ρ : Env}, I k ρ →
    (∀ i d ρ (nx : Env → Prop), ds[i]? = some d → I (k + i) ρ → (∀ ρ', I (k + i + 1) ρ' → nx ρ') → g d ρ (fun ρ' => b ρ' { nx := nx, rt := W.rt, bk := W.nx, ct := nx, ro := W.ro } E) E) → (∀ ρ, I (k + ds.length) ρ → W.nx ρ) → forM g b ds ρ W E
  | [], k, ρ, h0, _, hd => hd ρ h0
  | d :: ds, k, ρ, h0, hs, hd => by
    unfold forM
    refine hs 0 d ρ (fun ρ2 => forM g b ds ρ2 W E) rfl h0 fun ρ' h' => ?_
    refine for_inv I (k := k + 1) h' (fun i d ρ nx hi hI hn => ?_) fun ρ h => hd ρ ?_
    · have e : k + 1 + i = k + (i + 1) := by omega
      rw [e] at hI hn
      exact hs (i + 1) d ρ nx (by simpa using hi) hI hn
    · have e : k + (d :: ds).length = k + 1 + ds.length := by rw [List.length_cons]; omega
      rw [e]; exact h

/-! ### the helpers that the laws share -/
theorem cut_take {α : Type} (xs : List α) (n : Nat) : cutA xs none (some (n : Int)) = xs.take n := by
  unfold cutA
  rw [HT.sIx_nat]
  show (xs.drop 0).take (min n xs.length - 0) = _
  rw [List.drop_zero, Nat.sub_zero]
  rcases Nat.le_total n xs.length with h | h
  · rw [Nat.min_eq_left h]
  · rw [Nat.min_eq_right h, List.take_length, List.take_of_length_le h]
theorem cut_drop {α : Type} (xs : List α) (n : Nat) : cutA xs (some (n : Int)) none = xs.drop n := by
  unfold cutA
  rw [HT.sIx_nat]
  show (xs.drop (min n xs.length)).take (xs.length - min n xs.length) = _
  rcases Nat.le_total n xs.length with h | h
  · rw [Nat.min_eq_left h, List.take_of_length_le (by rw [List.length_drop]; exact Nat.le_refl _)]
  · rw [Nat.min_eq_right h, List.drop_length, List.drop_of_length_le h, List.take_nil]
def begunC (j : Nat) : CS := sRet (frz (cLst (cCons (frz (cOr (cLc [j] (iSeq (frz (cSl (bVar 0) (oNo) (oIs (frz (cC (.int 63))))))) (gNm j) (tYesD) (frz (cB absM (cCons (bVar j) (cNil))))) (cLst (cCons (frz (cC (.int 7))) (cNil))))) (cCons (frz (cC (.int 0))) (cCons (frz (cC (.int 1))) (cNil))))))
theorem begun_std {x y : Str} : BegunC (begunC 1) [x, y] := by
  intro ns rt E h
  show begunC 1 [.sh (.scr ns), .no] _ E
  have e63 : (63 : Int) = ((63 : Nat) : Int) := rfl
  unfold begunC
  walk_at "dl"
  show ((cutA ns none (some 63)).map D.int).length ≤ sizeLine ∧ _
  rw [e63, cut_take]
  have hl : (ns.take 63).length ≤ 63 := by rw [List.length_take]; exact Nat.min_le_left _ _
  refine ⟨by rw [List.length_map]; exact Nat.le_trans hl (by decide), ?_⟩
  let ab : D → D := fun d => match d with | .int i => .int (if i < 0 then -i else i) | d => d
  refine lc_map ab (fun d hd Q q => ?_) ?_
  · obtain ⟨i, _, rfl⟩ := List.mem_map.mp hd
    exact q
  · have em : ((ns.take 63).map D.int).map ab = ((ns.take 63).map fun i : Int => if i < 0 then -i else i).map D.int := by rw [List.map_map, List.map_map]; rfl
    rw [em]
    cases hc : (ns.take 63).map fun i : Int => if i < 0 then -i else i with
    | nil =>
      show (1 ≤ sizeLine ∧ _)
      refine ⟨by decide, by decide, ?_⟩
      exact h [7] _ ⟨by decide, by decide, by decide, by decide, by decide, by decide⟩
    | cons a r =>
      show (3 ≤ sizeLine ∧ _)
      refine ⟨by decide, ?_⟩
      refine h (a :: r) _ ⟨by decide, by decide, by decide, by simp, fun z hz => ?_, by rw [← hc, List.length_map]; exact hl⟩
      rw [← hc] at hz
      obtain ⟨i, _, rfl⟩ := List.mem_map.mp hz
      split <;> omega

/-- data that may be compared -/
def pyOk (ds : List D) : Prop := ∀ d ∈ ds, ∃ p, d.py = some p ∧ p.canLay0 = true ∧ p.depth ≤ 60
theorem pyOk_some : ∀ {ds : List D}, pyOk ds → ∃ ps, pyL ds = some ps ∧ PyData.canLayAll0 ps = true ∧ PyData.depthAll ps ≤ 60
  | [], _ => ⟨[], rfl, rfl, Nat.zero_le _⟩
  | d :: ds, h => by
    obtain ⟨p, h1, h2, h3⟩ := h d List.mem_cons_self
    obtain ⟨ps, q1, q2, q3⟩ := pyOk_some (ds := ds) fun d hd => h d (List.mem_cons_of_mem _ hd)
    refine ⟨p :: ps, by simp only [pyL, h1, q1], by rw [PyData.canLayAll0, h2, q2]; rfl, ?_⟩
    rw [PyData.depthAll]
    exact Nat.max_le.mpr ⟨h3, q3⟩
theorem pyOk_shaped {ds : List D} (h : pyOk ds) : ∃ ps, pyL ds = some ps ∧ SeqAt.shaped (.list ps) = true ∧ SeqAt.shaped (.tuple ps) = true := by
  obtain ⟨ps, h1, h2, h3⟩ := pyOk_some h
  refine ⟨ps, h1, ?_, ?_⟩ <;>
  · unfold SeqAt.shaped
    rw [PyData.canLay0, h2, PyData.depth]
    simp only [Bool.true_and, decide_eq_true_eq]
    omega
theorem pyL_len : ∀ {ds : List D} {ps : List PyData}, pyL ds = some ps → ps.length = ds.length
  | [], _, h => by cases h; rfl
  | d :: ds, ps, h => by
    simp only [pyL] at h
    split at h
    · cases h; rw [List.length_cons, List.length_cons, pyL_len ‹_›]
    · cases h
theorem eq_nilL {xs : List D} {Q : Bool → Prop} {E : Xn → Prop} (h : pyOk xs) (q : Q xs.isEmpty) : eqM (.lst xs) (.lst []) Q E := by
  obtain ⟨ps, h1, h2, _⟩ := pyOk_shaped h
  unfold eqM
  simp only [fl, D.py, h1, pyL, Option.map_some]
  refine ⟨h2, by decide, ?_⟩
  have hl := pyL_len h1
  cases xs with
  | nil => cases ps with
    | nil => exact q
    | cons _ _ => cases hl
  | cons _ _ => cases ps with
    | nil => cases hl
    | cons _ _ => exact q
theorem eq_nilT {xs : List D} {Q : Bool → Prop} {E : Xn → Prop} (h : pyOk xs) (q : Q xs.isEmpty) : eqM (.tup xs) (.tup []) Q E := by
  obtain ⟨ps, h1, _, h2⟩ := pyOk_shaped h
  unfold eqM
  simp only [fl, D.py, h1, pyL, Option.map_some]
  refine ⟨h2, by decide, ?_⟩
  have hl := pyL_len h1
  cases xs with
  | nil => cases ps with
    | nil => exact q
    | cons _ _ => cases hl
  | cons _ _ => cases ps with
    | nil => cases hl
    | cons _ _ => exact q

/-! ### pick, mixed -/
def pickM : List D → M D
  | [.gen, .lst ds] => fun Q _ => (ds ≠ [] ∧ ds.length ≤ 1000) ∧ ∀ d ∈ ds, Q d
  | [.gen, .tup ds] => fun Q _ => (ds ≠ [] ∧ ds.length ≤ 1000) ∧ ∀ d ∈ ds, Q d
  | _ => fail
def pickC : CS := sRet (frz (cIx (bVar 1) (frz (cCall 2 drawM (cCons (frz (cVar 0)) (cCons (frz (cB lenM (cCons (bVar 1) (cNil)))) (cNil)))))))
theorem pick_std {x y : Str} : ∀ ds QD ED, pickM ds QD ED → pickC (startE [x, y] ds) { nx := fun _ => QD .non, rt := fun d _ => QD d } ED := by
  intro ds QD ED h
  unfold pickM at h
  split at h
  · rename_i ds
    obtain ⟨⟨hn, hl⟩, h⟩ := h
    have hp := List.length_pos_iff.mpr hn
    show pickC [.sh .gen, .sh (.lst ds)] _ ED
    unfold pickC
    walk_at "dl"
    refine ⟨⟨by omega, by omega⟩, fun k k0 k1 => ?_⟩
    obtain ⟨n, rfl⟩ : ∃ n : Nat, k = n := ⟨k.toNat, by omega⟩
    have hn : n < ds.length := by omega
    walk_at "dl"
    rw [at_nat hn]
    exact h _ (List.getElem_mem hn)
  · rename_i ds
    obtain ⟨⟨hn, hl⟩, h⟩ := h
    have hp := List.length_pos_iff.mpr hn
    show pickC [.sh .gen, .sh (.tup ds)] _ ED
    unfold pickC
    walk_at "dl"
    refine ⟨⟨by omega, by omega⟩, fun k k0 k1 => ?_⟩
    obtain ⟨n, rfl⟩ : ∃ n : Nat, k = n := ⟨k.toNat, by omega⟩
    have hn : n < ds.length := by omega
    walk_at "dl"
    rw [at_nat hn]
    exact h _ (List.getElem_mem hn)
  · exact h.elim
theorem take_out {l : List D} {n : Nat} (h : n < l.length) : ([l[n]] ++ l.eraseIdx n).Perm l := by
  rw [List.eraseIdx_eq_take_drop_succ]
  have e : l = l.take n ++ l[n] :: l.drop (n + 1) := by
    rw [← List.drop_eq_getElem_cons h, List.take_append_drop]
  conv => rhs; rw [e]
  rw [List.singleton_append]
  exact List.perm_middle.symm
def mixedM : List D → M D
  | [.gen, .lst ds] => fun Q _ => (pyOk ds ∧ ds.length ≤ 1000) ∧ ∀ es : List D, es.Perm ds → Q (.lst es)
  | _ => fail
def mixedC : CS := sSeq (sPar 2 3 true true (cB listM (cCons (bVar 1) (cNil))) (cLst (cNil))) (sSeq (sWhile (tCm .NotEq (bVar 2) (frz (cLst (cNil)))) (sApp 3 (uPopAt 2 (frz (cCall 2 drawM (cCons (frz (cVar 0)) (cCons (frz (cB lenM (cCons (bVar 2) (cNil)))) (cNil)))))))) (sFrz 3 (sRet (frz (cVar 3)))))
theorem mixed_std {x y z w : Str} : ∀ ds QD ED, mixedM ds QD ED → mixedC (startE [x, y, z, w] ds) { nx := fun _ => QD .non, rt := fun d _ => QD d } ED := by
  intro ds QD ED h
  unfold mixedM at h
  split at h
  · rename_i ds
    obtain ⟨⟨hp, hl⟩, h⟩ := h
    show mixedC [.sh .gen, .sh (.lst ds), .no, .no] _ ED
    unfold mixedC
    walk_at "dl"
    refine ⟨by decide, ?_⟩
    unfold sWhile
    refine ⟨fun n ρ => ∃ left found : List D, n = left.length ∧ ρ = [.sh .gen, .sh (.lst ds), .ow (.lst left) none, .ow (.lst found) none] ∧ (found ++ left).Perm ds, ⟨_, ds, [], rfl, rfl, by rw [List.nil_append]⟩, ?_⟩
    rintro n ρ ⟨left, found, rfl, rfl, pm⟩
    have sub : ∀ d ∈ left, d ∈ ds := fun d hd => pm.mem_iff.mp (List.mem_append_right _ hd)
    have lens := pm.length_eq
    rw [List.length_append] at lens
    walk_at "dl"
    refine ⟨by decide, eq_nilL (fun d hd => hp d (sub d hd)) ?_⟩
    cases hle : left with
    | nil =>
      rw [hle, List.append_nil] at pm
      show QD (.lst found)
      exact h found pm
    | cons a r =>
      rw [← hle]
      have hpos : 0 < left.length := by rw [hle]; exact Nat.succ_pos _
      have he : (!left.isEmpty) = true := by rw [hle]; rfl
      rw [if_pos he]
      refine ⟨⟨by omega, by omega⟩, fun k k0 k1 => ?_⟩
      obtain ⟨n, rfl⟩ : ∃ n : Nat, k = n := ⟨k.toNat, by omega⟩
      have hn : n < left.length := by omega
      have hs : seqIndex? (n : Int) left.length = some n := by
        unfold seqIndex?
        simp only [show ¬ ((n : Int) < 0) from by omega, if_false]
        rw [if_pos (by simp; omega), Int.toNat_natCast]
      show (-2 ^ 63 ≤ (n : Int) ∧ (n : Int) < 2 ^ 63) ∧ _
      refine ⟨⟨by omega, by omega⟩, ?_⟩
      rw [hs]
      show match left[n]? with | some d => _ | none => False
      rw [List.getElem?_eq_getElem hn]
      refine ⟨by rw [sizeLine_eq]; omega, (left.eraseIdx n).length, ?_, left.eraseIdx n, found ++ [left[n]], rfl, rfl, ?_⟩
      · rw [List.length_eraseIdx_of_lt hn]; omega
      · rw [List.append_assoc]
        exact ((take_out hn).append_left found).trans pm
  · exact h.elim
end DL

namespace DL
open PySem L2
section
variable {Ts : List TyN} {ds : List D} {i : Int} {a : Str} {b : Bool} {kvs : List (D × D)}
theorem isi_non : isiM Ts .non = ret (.bl (Ts.any (subN .non)), false) := rfl
theorem isi_bl : isiM Ts (.bl b) = ret (.bl (Ts.any (subN .bl)), false) := rfl
theorem isi_int : isiM Ts (.int i) = ret (.bl (Ts.any (subN .int)), false) := rfl
theorem isi_str : isiM Ts (.str a) = ret (.bl (Ts.any (subN .str)), false) := rfl
theorem isi_lst : isiM Ts (.lst ds) = ret (.bl (Ts.any (subN .lst)), false) := rfl
theorem isi_tup : isiM Ts (.tup ds) = ret (.bl (Ts.any (subN .tup)), false) := rfl
theorem isi_dct : isiM Ts (.dct kvs) = ret (.bl (Ts.any (subN .dct)), false) := rfl
theorem sub_tab : subN .tup .tup = true ∧ subN .tup .lst = false ∧ subN .tup .int = false ∧ subN .tup .bl = false ∧ subN .tup .str = false ∧ subN .tup .dct = false ∧
  subN .lst .tup = false ∧ subN .lst .lst = true ∧ subN .lst .int = false ∧ subN .lst .bl = false ∧ subN .lst .str = false ∧ subN .lst .dct = false ∧
  subN .int .tup = false ∧ subN .int .lst = false ∧ subN .int .int = true ∧ subN .int .bl = false ∧ subN .int .str = false ∧ subN .int .dct = false ∧
  subN .bl .tup = false ∧ subN .bl .lst = false ∧ subN .bl .int = true ∧ subN .bl .bl = true ∧ subN .bl .str = false ∧ subN .bl .dct = false ∧
  subN .str .tup = false ∧ subN .str .lst = false ∧ subN .str .int = false ∧ subN .str .bl = false ∧ subN .str .str = true ∧ subN .str .dct = false ∧
  subN .dct .tup = false ∧ subN .dct .lst = false ∧ subN .dct .int = false ∧ subN .dct .bl = false ∧ subN .dct .str = false ∧ subN .dct .dct = true ∧
  subN .non .tup = false ∧ subN .non .lst = false ∧ subN .non .int = false ∧ subN .non .bl = false ∧ subN .non .str = false ∧ subN .non .dct = false := by
  refine ⟨?_, ?_, ?_, ?_, ?_, ?_, ?_, ?_, ?_, ?_, ?_, ?_, ?_, ?_, ?_, ?_, ?_, ?_, ?_, ?_, ?_, ?_, ?_, ?_, ?_, ?_, ?_, ?_, ?_, ?_, ?_, ?_, ?_, ?_, ?_, ?_, ?_, ?_, ?_, ?_, ?_, ?_⟩ <;> rfl
theorem len_lst : lenM [.lst ds] = ret (.int ds.length, false) := rfl
theorem len_tup : lenM [.tup ds] = ret (.int ds.length, false) := rfl
theorem len_dct : lenM [.dct kvs] = ret (.int kvs.length, false) := rfl
theorem len_str : lenM [.str a] = fun Q _ => a.length ≤ sizeLine ∧ Q (.int a.length, false) := rfl
theorem abs_int : absM [.int i] = ret (.int (if i < 0 then -i else i), false) := rfl
theorem list_lst : listM [.lst ds] = ret (.lst ds, true) := rfl
theorem list_tup : listM [.tup ds] = ret (.lst ds, true) := rfl
theorem tuple_lst : tupleM [.lst ds] = ret (.tup ds, false) := rfl
theorem tuple_tup : tupleM [.tup ds] = ret (.tup ds, false) := rfl
theorem items_lst : itemsM (.lst ds) = ret ds := rfl
theorem items_tup : itemsM (.tup ds) = ret ds := rfl
theorem items_str : itemsM (.str a) = ret (chars a) := rfl
theorem enum_lst : enumM [.lst ds] = ret (enumD ds) := rfl
theorem enum_tup : enumM [.tup ds] = ret (enumD ds) := rfl
end
/-! ### comparing data -/
theorem pyL_map {α : Type} {f : α → D} {p : α → PyData} (h : ∀ a, (f a).py = some (p a)) : ∀ l : List α, pyL (l.map f) = some (l.map p)
  | [] => rfl
  | a :: l => by simp only [List.map_cons, pyL, h, pyL_map h l]
theorem eqv_ints : ∀ xs ys : List Int, PyData.eqvAll (xs.map .int) (ys.map .int) = decide (xs = ys)
  | [], [] => by simp [PyData.eqvAll]
  | [], y :: ys => by simp [PyData.eqvAll]
  | x :: xs, [] => by simp [PyData.eqvAll]
  | x :: xs, y :: ys => by
    simp only [List.map_cons, PyData.eqvAll, eqv_ints xs ys, PyData.eqv]
    by_cases h : x = y
    · subst h; simp
    · have : (x == y) = false := by simpa using h
      rw [this, Bool.false_and]
      simp [h]
theorem shaped_ints (xs : List Int) : SeqAt.shaped (.list (xs.map .int)) = true ∧ SeqAt.shaped (.tuple (xs.map .int)) = true := by
  have h1 := lay_ints xs
  have h2 := depth_ints xs
  have d1 : (PyData.list (xs.map .int)).depth ≤ 64 := by rw [PyData.depth]; omega
  have d2 : (PyData.tuple (xs.map .int)).depth ≤ 64 := by rw [PyData.depth]; omega
  constructor
  · unfold SeqAt.shaped
    rw [PyData.canLay0, h1, decide_eq_true d1]; rfl
  · unfold SeqAt.shaped
    rw [PyData.canLay0, h1, decide_eq_true d2]; rfl
theorem eq_intsL {xs ys : List Int} {Q : Bool → Prop} {E : Xn → Prop} (q : Q (decide (xs = ys))) : eqM (.lst (xs.map .int)) (.lst (ys.map .int)) Q E := by
  unfold eqM
  simp only [fl, D.py, pyL_map (f := D.int) (p := PyData.int) (fun _ => rfl), Option.map_some]
  refine ⟨(shaped_ints xs).1, (shaped_ints ys).1, ?_⟩
  show Q (PyData.eqvAll _ _)
  rw [eqv_ints]; exact q
theorem eq_intsT {xs ys : List Int} {Q : Bool → Prop} {E : Xn → Prop} (q : Q (decide (xs = ys))) : eqM (.tup (xs.map .int)) (.tup (ys.map .int)) Q E := by
  unfold eqM
  simp only [fl, D.py, pyL_map (f := D.int) (p := PyData.int) (fun _ => rfl), Option.map_some]
  refine ⟨(shaped_ints xs).2, (shaped_ints ys).2, ?_⟩
  show Q (PyData.eqvAll _ _)
  rw [eqv_ints]; exact q
theorem intsD_map : ∀ ns : List Int, intsD (ns.map D.int) = some ns
  | [] => rfl
  | n :: ns => by simp only [List.map_cons, intsD, intsD_map ns, Option.map_some]
theorem blsD_map : ∀ ns : List Bool, blsD (ns.map D.bl) = some ns
  | [] => rfl
  | n :: ns => by simp only [List.map_cons, blsD, blsD_map ns, Option.map_some]
theorem maxD_Z {ns : List Int} {Q : D × Bool → Prop} {E : Xn → Prop} (h : ∀ x ∈ ns, 0 ≤ x) (q : Q (.int (ns.foldl max 0), false)) : bestDM true (.int 0) [.lst (ns.map D.int)] Q E := by
  cases ns with
  | nil => exact q
  | cons a r =>
    show bestI true (D.int a :: r.map D.int) Q E
    unfold bestI
    have : intsD (D.int a :: r.map D.int) = some (a :: r) := intsD_map (a :: r)
    rw [this]
    show Q (.int (topI a r), false)
    rw [foldl_top]
    have ha := h a List.mem_cons_self
    have e : (a :: r).foldl max 0 = r.foldl max a := by
      rw [List.foldl_cons]
      have : max 0 a = a := by omega
      rw [this]
    rw [← e]; exact q
end DL

namespace DL
open PySem L2 PySem.Spec PyProof.Rows

/-! ### zip of two sequences, lists or tuples -/
def SqX (K : PySem.W.Frag) (k : Bool) (H : Hp) (a : Addr) (xs : List V) : Prop := if k = true then SqT K H a xs else SqL K H a xs
def ItAt (k : Bool) (it a : Addr) (i : Nat) (h : Heap) : Prop := if k = true then h.IsTupleIter it a i else h.IsListIter it a i
def IsX (k : Bool) (a : Addr) (items : Array Value) (h : Heap) : Prop := if k = true then h.IsTuple a items else h.IsList a items
def itObj (k : Bool) (a : Addr) : Obj := { cls := .type (if k = true then "tuple_iterator" else "list_iterator"), data := .fields #[.ref a, .int 0 0] }
theorem ItAt.obj {k : Bool} {it a : Addr} {i : Nat} {h : Heap} (x : ItAt k it a i h) : ∃ o, h.get? it = some o ∧ ∀ v, o.data ≠ .cell v := by
  cases k with
  | true => obtain ⟨o, e, _, d⟩ := (show h.IsTupleIter it a i from x); exact ⟨o, e, fun v q => by rw [d] at q; cases q⟩
  | false => obtain ⟨o, e, _, d⟩ := (show h.IsListIter it a i from x); exact ⟨o, e, fun v q => by rw [d] at q; cases q⟩
theorem ItAt.lt {k : Bool} {it a : Addr} {i : Nat} {h : Heap} (x : ItAt k it a i h) : it < h.objs.size := by
  obtain ⟨o, e, _⟩ := x.obj; exact Heap.lt_size e
theorem ItAt.keep {k : Bool} {it a : Addr} {i : Nat} {h h' : Heap} (x : ItAt k it a i h) (q : ∀ o, h.get? it = some o → h'.get? it = some o) : ItAt k it a i h' := by
  cases k with
  | true => exact (show h.IsTupleIter it a i from x).at q
  | false => exact (show h.IsListIter it a i from x).at q
theorem draws_x {prog : Program} {w : World} {A : Around} (k : Bool) (hh : A.handled = none) (it a : Addr) (hne : a ≠ it) (items : Array Value) :
    Draws prog w A it [it, a] items.size (fun i v => items[i]? = some v) (fun i h => ItAt k it a i h ∧ IsX k a items h) := by
  cases k with
  | true => exact Draws.tuple hh it a hne items
  | false => exact Draws.list hh it a hne items
theorem begins_x (k : Bool) (a : Addr) (items : Array Value) : Begins (.ref a) (itObj k a) (IsX k a items) := by
  cases k with
  | true => exact begins_tuple a items
  | false => exact begins_list a items
theorem SqX.is {X : Cx} {pins : List (Addr × Obj)} {σ : L2.St} {H : Hp} {s : Shared} {k : Bool} {a : Addr} {xs : List V} (I : Inv X pins σ H s) (h : SqX X.K k H a xs) : ∃ its : List Value, Vals xs its ∧ IsX k a its.toArray s.heap := by
  cases k with
  | true => obtain ⟨its, rv, p, _⟩ := I.tuple (show SqT X.K H a xs from h); exact ⟨its, rv, p⟩
  | false => obtain ⟨its, rv, p, _⟩ := I.list (show SqL X.K H a xs from h); exact ⟨its, rv, p.isList⟩
theorem IsX.ne {k j : Bool} {it a b : Addr} {i : Nat} {items : Array Value} {h : Heap} (x : IsX k a items h) (y : ItAt j it b i h) : a ≠ it := fun e => by
  subst e
  cases k with
  | true =>
    obtain ⟨o, h1, h2, _⟩ := (show h.IsTuple a items from x)
    cases j with
    | true => obtain ⟨o', h3, h4, _⟩ := (show h.IsTupleIter a b i from y); rw [h3] at h1; cases h1; rw [h4] at h2; simp at h2
    | false => obtain ⟨o', h3, h4, _⟩ := (show h.IsListIter a b i from y); rw [h3] at h1; cases h1; rw [h4] at h2; simp at h2
  | false =>
    obtain ⟨o, h1, h2, _⟩ := (show h.IsList a items from x)
    cases j with
    | true => obtain ⟨o', h3, h4, _⟩ := (show h.IsTupleIter a b i from y); rw [h3] at h1; cases h1; rw [h4] at h2; simp at h2
    | false => obtain ⟨o', h3, h4, _⟩ := (show h.IsListIter a b i from y); rw [h3] at h1; cases h1; rw [h4] at h2; simp at h2
theorem IsX.lt {k : Bool} {a : Addr} {items : Array Value} {h : Heap} (x : IsX k a items h) : a < h.objs.size := by
  cases k with
  | true => obtain ⟨o, h1, _⟩ := (show h.IsTuple a items from x); exact Heap.lt_size h1
  | false => obtain ⟨o, h1, _⟩ := (show h.IsList a items from x); exact Heap.lt_size h1
theorem SqX.same {K : PySem.W.Frag} {k : Bool} {H H' : Hp} {a : Addr} {xs : List V} (e : Same H H') (h : SqX K k H a xs) : SqX K k H' a xs := by
  cases k with
  | true => exact sqT_same e h
  | false =>
    rcases (show SqL K H a xs from h) with (h | ⟨o, h⟩) | h
    · exact .inl (.inl (e _ _ h))
    · exact .inl (.inr ⟨o, e _ _ h⟩)
    · exact .inr h
/-- the items at each turn in a new pair -/
def ItzX (G : Hp → Prop) (xs ys : List V) : It :=
  ⟨fun i H => G H ∧ i < xs.length ∧ i < ys.length, fun i H v H' => ∃ T x y, v = .ref T ∧ H T = none ∧ H' = upd H T (.tup [x, y]) ∧ xs[i]? = some x ∧ ys[i]? = some y, fun i H => G H ∧ i = min xs.length ys.length⟩
theorem turn_zipX {P : Program} {w : World} {K : PySem.W.Frag} {elts : List Expr} {kk : Nat} {tpos : Pos} {a b : Addr} {xs ys : List V} {N : Nat} (k j : Bool) (ha : a < N) (hb : b < N) :
    Turn P w K (.Tuple elts kk tpos) (ItzX (fun H => SqX K k H a xs ∧ SqX K j H b ys) xs ys) [N + 4, N + 2, N + 3, N, N + 1] (N + 4)
      (fun i h => IsZip h (N + 4) (N + 2) (N + 3) .none ∧ IsTupOf2 h (N + 2) (.ref N) (.ref (N + 1)) ∧ (∃ x y, IsTupOf2 h (N + 3) x y) ∧ ItAt k N a i h ∧ ItAt j (N + 1) b i h) where
  mem := by simp
  obj := fun i h st c hc => by
    obtain ⟨hz, hTI, ⟨x, y, hTO⟩, h1, h2⟩ := st
    have e' : c = N + 4 ∨ c = N + 2 ∨ c = N + 3 ∨ c = N ∨ c = N + 1 := by simpa using hc
    rcases e' with q | q | q | q | q
    · rw [q]; exact ⟨_, hz, fun v q => nomatch q⟩
    · rw [q]; exact ⟨_, hTI, fun v q => nomatch q⟩
    · rw [q]; exact ⟨_, hTO, fun v q => nomatch q⟩
    · rw [q]; exact h1.obj
    · rw [q]; exact h2.obj
  keep := fun i h h' st q => by
    obtain ⟨hz, hTI, ⟨x, y, hTO⟩, h1, h2⟩ := st
    exact ⟨q (N + 4) (by simp) _ hz, q (N + 2) (by simp) _ hTI, ⟨x, y, q (N + 3) (by simp) _ hTO⟩, h1.keep fun o z => q N (by simp) o z, h2.keep fun o z => q (N + 1) (by simp) o z⟩
  item := by
    intro X hP hw hK hc i pins s σ H E I hf st hg
    subst hP hw hK
    obtain ⟨hz, hTI, ⟨x0, y0, hTO⟩, h1, h2⟩ := st
    obtain ⟨⟨hqx, hqy⟩, hlx, hly⟩ := hg
    obtain ⟨its, rv, p⟩ := hqx.is I
    obtain ⟨its2, rv2, p2⟩ := hqy.is I
    have S : ZipSep2 (N + 4) (N + 2) (N + 3) N (N + 1) (N :: [a]) ((N + 1) :: [b]) := zip_sep2 (fun c hc => by rw [List.mem_singleton] at hc; subst hc; exact ha) (fun c hc => by rw [List.mem_singleton] at hc; subst hc; exact hb)
    have hl1 := rv.length
    have hl2 := rv2.length
    refine wpAny_pyNext_zipD2_item S (draws_x (A := X.A.in1) k (I.ok.hd hc) N a (p.ne h1) its.toArray) (draws_x (A := X.A.in1) j (I.ok.hd hc) (N + 1) b (p2.ne h2) its2.toArray) hz hTI hTO ⟨h1, p⟩ ⟨h2, p2⟩ (by rw [List.size_toArray]; omega) (by rw [List.size_toArray]; omega) fun u u2 h' tk e1 e2 z' TO' st1 st2 hT hsz hk => ?_
    have e1 : its[i]? = some u := by simpa using e1
    have e2 : its2[i]? = some u2 := by simpa using e2
    obtain ⟨x, hx⟩ : ∃ x, xs[i]? = some x := ⟨_, List.getElem?_eq_getElem hlx⟩
    obtain ⟨y, hy⟩ : ∃ y, ys[i]? = some y := ⟨_, List.getElem?_eq_getElem hly⟩
    obtain ⟨u', hu', ru⟩ := rv.get hx
    obtain ⟨u2', hu2', ru2⟩ := rv2.get hy
    rw [e1] at hu'; cases hu'
    rw [e2] at hu2'; cases hu2'
    have hzl : N + 4 < s.heap.objs.size := Heap.lt_size hz
    refine ⟨_, rfl, wpAny_letOwnedTupleGo_zip (s := { s with heap := h', toks := tk }) z' fun h'' z'' sb => ?_⟩
    have hT2 : h''.get? s.heap.objs.size = some { cls := .type "tuple", data := .seq #[u, u2] } := (sb.2 _ (Nat.ne_of_gt hzl)).trans hT
    have new : ObjOk X.prog X.w (upd H s.heap.objs.size (.tup [x, y])) h'' s.heap.objs.size (.tup [x, y]) :=
      ⟨by show 2 ≤ sizeLine; decide, [u, u2], .cons ru (.cons ru2 .nil), ⟨_, hT2, rfl, _, rfl⟩⟩
    have I1 : Inv X pins σ (upd H s.heap.objs.size (.tup [x, y])) { s with heap := h'', toks := tk } :=
      I.turnedNew (t' := tk) (ch := [N + 4, N + 2, N + 3, N, N + 1]) (fun c o hb q => (sb.2 c (fun q' => hb (by simp [q']))).trans (hk c o (fun q' => hb (by simp [q'])) (fun q' => hb (by simp [q'])) (fun q' => hb (by simp [q'])) (fun q' => hb (by simp [q'])) q)) hf (Nat.le_refl _) new
    refine ⟨.ref s.heap.objs.size, _, I1, rfl, ⟨_, x, y, rfl, I.hok.fresh (Nat.le_refl _), rfl, hx, hy⟩, ⟨z'', ?_, ⟨u, u2, ?_⟩, ?_, ?_⟩, fun c hcm => ?_⟩
    · exact (sb.2 _ S.TIz).trans (hk _ _ S.TIz S.TITO S.TIi1 S.TIi2 hTI)
    · exact (sb.2 _ S.TOz).trans TO'
    · exact st1.1.keep fun o q => (sb.2 _ S.zi1.symm).trans q
    · exact st2.1.keep fun o q => (sb.2 _ S.zi2.symm).trans q
    · have hlt : c < s.heap.objs.size := by
        have e' : c = N + 4 ∨ c = N + 2 ∨ c = N + 3 ∨ c = N ∨ c = N + 1 := by simpa using hcm
        have : c ≤ N + 4 := by rcases e' with q | q | q | q | q <;> rw [q] <;> first | exact Nat.le_refl _ | exact Nat.add_le_add_left (by decide) _ | exact Nat.le_add_right _ _
        exact Nat.lt_of_le_of_lt this hzl
      rw [upd_ne (Nat.ne_of_lt hlt)]
      exact (hf c hcm).1
  done := by
    intro X hP hw hK hc i pins s σ H E I hf st hg
    subst hP hw hK
    obtain ⟨hz, hTI, ⟨x0, y0, hTO⟩, h1, h2⟩ := st
    obtain ⟨⟨hqx, hqy⟩, hend⟩ := hg
    obtain ⟨its, rv, p⟩ := hqx.is I
    obtain ⟨its2, rv2, p2⟩ := hqy.is I
    have S : ZipSep2 (N + 4) (N + 2) (N + 3) N (N + 1) (N :: [a]) ((N + 1) :: [b]) := zip_sep2 (fun c hc => by rw [List.mem_singleton] at hc; subst hc; exact ha) (fun c hc => by rw [List.mem_singleton] at hc; subst hc; exact hb)
    have l1 := rv.length
    have l2 := rv2.length
    exact wpAny_pyNext_zipD2_end S (draws_x (A := X.A.in1) k (I.ok.hd hc) N a (p.ne h1) its.toArray) (draws_x (A := X.A.in1) j (I.ok.hd hc) (N + 1) b (p2.ne h2) its2.toArray) hz hTI hTO ⟨h1, p⟩ ⟨h2, p2⟩ (by rw [List.size_toArray]; omega) (by rw [List.size_toArray]; omega) (by rw [List.size_toArray, List.size_toArray]; omega)
      fun h' tk hk => ⟨rfl, I.turnedL (t' := tk) (ch := [N + 4, N + 2, N + 3, N, N + 1]) (fun c o hb q =>
      hk c o (fun q' => hb (by simp [q'])) (fun q' => hb (by simp [q'])) (fun q' => hb (by simp [q'])) (fun q' => hb (by simp [q'])) q) hf⟩
  self := fun A i s Q E st h => wpAny_pyIter_zip st.1 h
theorem walk_zipX {xs ys : List V} {G : Hp → Prop} : Walk (ItzX G xs ys) (min xs.length ys.length) G (YPair (fun i => xs[i]?) (fun i => ys[i]?)) := by
  refine ⟨fun i _ hi q => ⟨q, by omega, by omega⟩, fun _ q => ⟨q, rfl⟩, fun i H v H' _ q y => ?_⟩
  obtain ⟨T, x, z, h1, h2, h3, h4, h5⟩ := y
  exact ⟨T, x, z, h1, h2, h3, h4, h5⟩
def seqD : D → Option (List D)
  | .lst ds => some ds
  | .tup ds => some ds
  | _ => none
def zipM : List D → M (List D)
  | [d, e] => fun Q _ => match seqD d, seqD e with
    | some xs, some ys => Q (pairs xs ys)
    | _, _ => False
  | _ => fail
def iZp (l : CL) : CI := fun ρ => bnd (l ρ) zipM
theorem seq_of {K : PySem.W.Frag} {F : Hp} {v : V} {d : D} {ds : List D} (r : Rep K F v d) (h : seqD d = some ds) : ∃ (k : Bool) (a : Addr) (xs : List V), v = .ref a ∧ SqX K k F a xs ∧ RepL K F xs ds := by
  cases r <;> simp only [seqD, Option.some.injEq] at h <;> first | cases h | skip
  · rename_i a vs h1 rl; exact ⟨false, a, vs, rfl, SqL.of h1, rl⟩
  · rename_i a vs h1 rl; exact ⟨true, a, vs, rfl, h1, rl⟩
theorem zip_pair {K : PySem.W.Frag} {F : Hp} {xs ys : List V} {ds es : List D} (r : RepL K F xs ds) (r2 : RepL K F ys es) : ∀ i d, (pairs ds es)[i]? = some d → ∃ a b, d = .tup [a, b] ∧ (∀ x, (fun i : Nat => xs[i]?) i = some x → Rep K F x a) ∧ ∀ x, (fun i : Nat => ys[i]?) i = some x → Rep K F x b := by
  intro i d e
  obtain ⟨a, b, rfl, h1, h2⟩ := pairs_at e
  refine ⟨a, b, rfl, fun x hx => ?_, fun x hx => ?_⟩
  · obtain ⟨v, q1, q2⟩ := r.get h1
    have hx : xs[i]? = some x := hx
    rw [q1] at hx; cases hx; exact q2
  · obtain ⟨v, q1, q2⟩ := r2.get h2
    have hx : ys[i]? = some x := hx
    rw [q1] at hx; cases hx; exact q2
section
variable {X : Cx} {E : Xn → Prop} {e e2 : Expr} {cl : CL} {p pos tpos : Pos} {elts : List Expr} {kk : Nat}
theorem ri_zip (hg : Gl X "zip") (hm : X.mg "zip" = none) (ha : PA X [e, e2] (rdL X.K E 2 cl)) (hs : starEach [e, e2] X.env = (false, eval e X.env) :: starEach [e2] X.env) (hpl : (backTo pos (starEach [e2] X.env)).any (·.1) = false) :
    PI X (.Tuple elts kk tpos) (.Call (.Name "zip" p) [e, e2] [] pos) (rdI X.K E (iZp cl)) := by
  refine ⟨fun pins s σ H R I ⟨B, F0, F, ρ, Q, re, h, k⟩ => ?_⟩
  refine Call_ (ld_blt I hg hm PyProof.Rows.boot_zip (PyProof.Rows.callWith_type1 (thn (ha.run pos pins s σ H (fun vs H1 => ∃ F1 ds, Grow F H F1 H1 ∧ RepL X.K F1 vs ds ∧ vs.length = 2 ∧ zipM ds Q E) I
    ⟨B, F0, F, ρ, _, re, h, fun vs H1 F1 ds g1 r1 hn q => ⟨F1, ds, g1, r1, hn, q⟩⟩) ?_) hs hpl))
  rintro us s1 ⟨vs, H1, I1, r1, F1, ds, g1, rl, hn, q⟩
  obtain ⟨v, w, rfl⟩ := len2 hn
  obtain ⟨d, d2, rfl, rp, rp2⟩ := rl.two
  have q : (match seqD d, seqD d2 with | some xs, some ys => Q (pairs xs ys) | _, _ => False) := q
  split at q
  · rename_i ds es e1 e2
    obtain ⟨kx, a, xs, rfl, sx, rx⟩ := seq_of rp e1
    obtain ⟨ky, b, ys, rfl, sy, ry⟩ := seq_of rp2 e2
    cases r1 with
    | cons r rr =>
      cases rr with
      | cons r' rr =>
        cases rr
        cases r
        cases r'
        obtain ⟨its, rv, p1⟩ := (sx.same g1.fh).is I1
        obtain ⟨its2, rv2, p2⟩ := (sy.same g1.fh).is I1
        refine zip_begins2 (begins_x kx a its.toArray) (begins_x ky b its2.toArray) p1 p2 fun h' hz hTI hTO h1 h2 hsz hk => wpAny_pyIter_zip hz ?_
        have I2 : Inv X pins σ H1 { s1 with heap := h' } := I1.kept (t' := s1.toks) hk
        have t1 : ItAt kx s1.heap.objs.size a 0 h' := by
          cases kx with
          | true => exact ⟨_, h1, rfl, rfl⟩
          | false => exact ⟨_, h1, rfl, rfl⟩
        have t2 : ItAt ky (s1.heap.objs.size + 1) b 0 h' := by
          cases ky with
          | true => exact ⟨_, h2, rfl, rfl⟩
          | false => exact ⟨_, h2, rfl, rfl⟩
        refine ⟨_, _, _, _, H1, rfl, I2, turn_zipX (xs := xs) (ys := ys) kx ky p1.lt p2.lt, ⟨hz, hTI, ⟨_, _, hTO⟩, t1, t2⟩, fun c hcm => ?_, ?_⟩
        · have e' : c = s1.heap.objs.size + 4 ∨ c = s1.heap.objs.size + 2 ∨ c = s1.heap.objs.size + 3 ∨ c = s1.heap.objs.size ∨ c = s1.heap.objs.size + 1 := by simpa using hcm
          have hle : s1.heap.objs.size ≤ c := by
            rcases e' with z | z | z | z | z <;> rw [z] <;> first | exact Nat.le_refl _ | exact Nat.le_add_right _ _
          exact I1.fpOk hle (I1.hok.fresh hle)
        · refine k _ H1 F1 _ g1 (ItOk.of_pair (G := fun H => SqX X.K kx H a xs ∧ SqX X.K ky H b ys) (by rw [pairs_len, ← rx.length, ← ry.length]; exact walk_zipX) (fun H s => ⟨sx.same s, sy.same s⟩) (zip_pair rx ry)) q
  · exact q.elim
end
def iZip : IR := fun r g tg e => match tg, e with
  | .Tuple _ _ _, .Call (.Name x _) [a, b] [] _ => if spB g x "zip" = true then (lOf r g [a, b]).map iZp else none
  | _, _ => none
theorem iZip_ok : IrOk iZip := by
  intro r R X g E tg e c ok h
  unfold iZip at h
  split at h
  · split at h
    · rename_i hs
      obtain ⟨rfl, q1, q2⟩ := spB_is ok hs
      obtain ⟨l, h1, rfl⟩ := map_some h
      obtain ⟨h2, h3⟩ := lOf_ok (E := E) R ok h1
      rw [List.all_cons, Bool.and_eq_true] at h3
      exact ri_zip q1 q2 h2 (plain_star h3.1) (plains_pl h3.2)
    · cases h
  · cases h
end DL

namespace DL
open PySem L2 PySem.Spec PyProof.Rows

/-! ### sorted(set(a tuple of ints)) -/
def rSetI (w : World) (K : PySem.W.Frag) : List V → Hp → VK → Prop := fun xs H Q => ∃ (p : Addr) (ns : List Int), xs = [.ref p] ∧ SqT K H p (ns.map V.int) ∧ ns.length < 64 ∧
  ∀ c n, n ≤ ns.length → H c = none → Q (.ref c) (upd H c (SetO w c (fun j => decide (j ∈ ns)) n))
theorem cr_setI {X : Cx} (hc : X.calm = true) : CallR X (.type "set") (rSetI X.w X.K) := by
  intro pins s σ H xs us Q I r h
  obtain ⟨p, ns, rfl, hq, hl, q⟩ := h
  rw [Vals.ref1 r]
  obtain ⟨its, rv, pt, hz⟩ := I.tuple hq
  have hi : IntsAre its.toArray.toList ns := ints_of_vals rv
  refine call_set_tupI ns (I.ok.hd hc) (show s.heap.IsTuple p its.toArray from pt) hi (by unfold scanBound; omega) fun h' tk c R1 hcn k => ?_
  have hn : H s.heap.objs.size = none := I.hok.fresh (Nat.le_refl _)
  exact ⟨.ref _, upd H s.heap.objs.size (SetO X.w s.heap.objs.size _ c), I.laid (t' := tk) k (Nat.le_refl _) (setO_new R1), rfl, q _ c hcn hn⟩
def srtSetM : D → M (D × Bool)
  | .tup ds => fun Q _ => match intsD ds with
    | some ns => ns.length < 64 ∧ ∀ L : List Int, L.Pairwise (· < ·) → (∀ k, k ∈ L ↔ k ∈ ns) → Q (.lst (L.map .int), true)
    | none => False
  | _ => fail
def cSrtSet (a : CB) : CV := fun ρ => bnd (a ρ) srtSetM
theorem re_srtSet {X : Cx} {E : Xn → Prop} {e : Expr} {xa : CB} {p1 p2 q1 q2 : Pos} (hc : X.calm = true) (ha : PE X e (rdF X.K E xa)) (hg : Gl X "sorted") (hm : X.mg "sorted" = none) (hg2 : Gl X "set") (hm2 : X.mg "set" = none)
    (hs : starEach [e] X.env = [(false, eval e X.env)]) : PE X (.Call (.Name "sorted" p1) [.Call (.Name "set" p2) [e] [] q2] [] q1) (rdV X.K E (cSrtSet xa)) :=
  (pe_callB (cr_sortedSet hc) hg hm (by kernel_rfl) (pa_cons (pe_callTy (cr_setI hc) hg2 hm2 (by kernel_rfl) (pa_cons ha pa_nil hs) (by decide) (by decide) hs rfl) pa_nil rfl) (by decide) (by decide) rfl rfl).imp fun σ H Q' ⟨B, F0, F, ρ, Q, re, h, k⟩ =>
    ⟨B, F0, F, ρ, _, re, h, fun v H1 F1 d g1 r1 q1 => by
      unfold srtSetM at q1
      split at q1
      · rename_i ds
        split at q1
        · rename_i ns en
          cases r1 with
          | @tup p vs _ hp rl =>
            have ev := rl.ints en
            subst ev
            refine ⟨p, ns, rfl, sqT_same g1.fh hp, q1.1, fun c n hn hcn => ⟨c, _, n, rfl, upd_same, Nat.lt_of_le_of_lt hn q1.1, fun ns' p' hs hmem hlen hp' => ?_⟩⟩
            have ga := Grow.own g1.fh hcn (SetO X.w c (fun j => decide (j ∈ ns)) n)
            have gb := Grow.own ga.fh hp' (.lst (ns'.map V.int))
            refine k _ _ F1 (.lst (ns'.map .int), true) ((g1.trans ga).trans gb) (Val.own (d := .lst (ns'.map .int)) ((g1.trans ga).h.free hp') (ga.fh.free hp') (Own.mkL upd_same (repL_ints ns'))) ?_
            exact q1.2 ns' hs fun z => by rw [hmem z, decide_eq_true_eq]
        · exact q1.elim
      · exact q1.elim⟩
def vSrtSet : VR := fun r g e => match e with
  | .Call (.Name x _) [.Call (.Name y _) [a] [] _] [] _ => if (globB g x && globB g y && decide (x = "sorted") && decide (y = "set") && plainE a) = true then match g.gl.lookup x, g.gl.lookup y with
    | some (.bi _ _), some (.ty _ _) => (fOf r g a).map cSrtSet
    | _, _ => none else none
  | _ => none
theorem vSrtSet_ok : VrOk vSrtSet := by
  intro r R X g E e c ok h
  unfold vSrtSet at h
  split at h
  · split at h
    · rename_i hb
      simp only [Bool.and_eq_true, decide_eq_true_eq] at hb
      obtain ⟨⟨⟨⟨h1, h2⟩, rfl⟩, rfl⟩, hp⟩ := hb
      split at h
      · rename_i e1 e2
        obtain ⟨hm, _⟩ := ok.gl _ _ e1
        obtain ⟨hm2, _⟩ := ok.gl _ _ e2
        obtain ⟨x, h3, rfl⟩ := map_some h
        exact re_srtSet ok.calm (fOf_ok R ok h3) (globB_is ok h1).1 hm (globB_is ok h2).1 hm2 (plain_star hp)
      · cases h
    · cases h
  · cases h

/-! ### xs[::-1] -/
def revM : D → M (D × Bool)
  | .lst ds => ret (.lst ds.reverse, true)
  | _ => fail
def cRev (a : CB) : CV := fun ρ => bnd (a ρ) revM
theorem RepL.reverse {K : PySem.W.Frag} {H : Hp} : ∀ {vs : List V} {ds : List D}, RepL K H vs ds → RepL K H vs.reverse ds.reverse
  | _, _, .nil => .nil
  | _, _, .cons r t => by
    rw [List.reverse_cons, List.reverse_cons]
    exact (RepL.reverse t).append (.cons r .nil)
theorem re_rev {X : Cx} {E : Xn → Prop} {e : Expr} {xa : CB} {k : Nat} {p1 p2 p3 pos : Pos} (ha : PE X e (rdB X.K E xa)) : PE X (.Subscript e (.Slice none none (some (.UnaryOp .USub (.Constant (.int 1) k p1) p2)) p3) pos) (rdV X.K E (cRev xa)) :=
  (pe_revL ha).imp fun σ H Q' ⟨B, F0, F, ρ, Q, re, h, k⟩ => ⟨B, F0, F, ρ, _, re, h, fun v H1 F1 d g1 b1 q1 => by
    unfold revM at q1
    split at q1
    · obtain ⟨a, vs, rfl, ha, ra⟩ := b1.lst g1.fh
      exact ⟨a, vs, rfl, SqL.of ha, new_own g1.fh ra.reverse q1 fun w F2 H2 r g2 v2 q2 => k w H2 F2 r (g1.trans g2) (v2.back g1) q2⟩
    · exact q1.elim⟩
def vRev : VR := fun r g e => match e with
  | .Subscript a (.Slice none none (some (.UnaryOp .USub (.Constant (.int 1) _ _) _)) _) _ => (bOf r g a).map cRev
  | _ => none
theorem vRev_ok : VrOk vRev := by
  intro r R X g E e c ok h
  unfold vRev at h
  split at h
  · obtain ⟨x, h1, rfl⟩ := map_some h
    exact re_rev (bOf_ok R ok h1)
  · cases h

/-! ### what is one's own, given out -/
def sRetOwn : SR := fun r g st => match st with
  | .Return (some (.Name x p)) _ => if g.ro = true then match slotOf g x with
    | some i => if i ∈ g.own then some (sRetO i) else (r.v g (.Name x p)).map sRetF
    | none => none else none
  | .Return (some e) _ => if g.ro = true then (r.v g e).map sRetF else none
  | _ => none
theorem sRetOwn_ok : SrOk sRetOwn := by
  intro r R X g E st c ok hp h
  unfold sRetOwn at h
  split at h
  · split at h
    · split at h
      · rename_i i hi
        split at h
        · cases h
          obtain ⟨h1, h2, h3, h4⟩ := slotOf_is hi
          exact rs_retO (by rw [ok.N]; exact h1) (by rw [ok.sc]; exact h2) h3 h4
        · obtain ⟨x, h1, rfl⟩ := map_some h
          exact rs_retF (R.v ok h1)
      · cases h
    · cases h
  · split at h
    · obtain ⟨x, h1, rfl⟩ := map_some h
      exact rs_retF (R.v ok h1)
    · cases h
  · cases h

/-! ### two clauses -/
/-- what a target leaves of one's own -/
def GSh (sl : List Nat) (g : CG) : Prop := ∀ d ρ Q E, g d ρ Q E → g d ρ (fun ρ' => Q ρ' ∧ ∀ i d z, ρ'[i]? = some (.ow d z) → i ∉ sl ∧ ρ[i]? = some (.ow d z)) E
def GsSh (sl : List Nat) (g : List D → Env → M Env) : Prop := ∀ d ρ Q E, g d ρ Q E → g d ρ (fun ρ' => Q ρ' ∧ ∀ i d z, ρ'[i]? = some (.ow d z) → i ∉ sl ∧ ρ[i]? = some (.ow d z)) E
theorem gsh_mono {g : CG} (hm : ∀ d ρ (Q Q' : Env → Prop) E, (∀ ρ, Q ρ → Q' ρ) → g d ρ Q E → g d ρ Q' E) : True := trivial
def GMo (g : CG) : Prop := ∀ d ρ (Q Q' : Env → Prop) E, (∀ ρ, Q ρ → Q' ρ) → g d ρ Q E → g d ρ Q' E
def GsMo (g : List D → Env → M Env) : Prop := ∀ d ρ (Q Q' : Env → Prop) E, (∀ ρ, Q ρ → Q' ρ) → g d ρ Q E → g d ρ Q' E
theorem gNm_sh (i : Nat) : GSh [i] (gNm i) ∧ GMo (gNm i) := by
  refine ⟨fun d ρ Q E h => ⟨h, fun j e z hj => ?_⟩, fun d ρ Q Q' E hq h => hq _ h⟩
  rcases set_at hj with ⟨_, _, q⟩ | ⟨hn, q⟩
  · cases q
  · exact ⟨by rw [List.mem_singleton]; exact hn, q⟩
theorem gsNil_sh : GsSh [] gsNil ∧ GsMo gsNil := by
  refine ⟨fun d ρ Q E h => ?_, fun d ρ Q Q' E hq h => ?_⟩
  · cases d with
    | nil => exact ⟨h, fun i e z q => ⟨by simp, q⟩⟩
    | cons _ _ => exact (show False from h).elim
  · cases d with
    | nil => exact hq _ h
    | cons _ _ => exact (show False from h).elim
theorem gsCons_sh {sl sl2 : List Nat} {g : CG} {gs : List D → Env → M Env} (h1 : GSh sl g ∧ GMo g) (h2 : GsSh sl2 gs ∧ GsMo gs) : GsSh (sl ++ sl2) (gsCons g gs) ∧ GsMo (gsCons g gs) := by
  refine ⟨fun d ρ Q E h => ?_, fun d ρ Q Q' E hq h => ?_⟩
  · cases d with
    | nil => exact (show False from h).elim
    | cons d ds =>
      have h : g d ρ (fun ρ' => gs ds ρ' Q E) E := h
      refine h1.2 d ρ _ _ E (fun ρ' q => ?_) (h1.1 d ρ _ E h)
      refine h2.2 ds ρ' _ _ E (fun ρ2 q2 => ⟨q2.1, fun i e z hz => ?_⟩) (h2.1 ds ρ' Q E q.1)
      obtain ⟨n2, w2⟩ := q2.2 i e z hz
      obtain ⟨n1, w1⟩ := q.2 i e z w2
      exact ⟨by rw [List.mem_append]; rintro (z | z); exact n1 z; exact n2 z, w1⟩
  · cases d with
    | nil => exact (show False from h).elim
    | cons d ds => exact h1.2 d ρ _ _ E (fun ρ' q => h2.2 ds ρ' _ _ E hq q) h
theorem gTp_sh {n : Nat} {sl : List Nat} {gs : List D → Env → M Env} (h : GsSh sl gs ∧ GsMo gs) : GSh sl (gTp n gs) ∧ GMo (gTp n gs) := by
  refine ⟨fun d ρ Q E q => ?_, fun d ρ Q Q' E hq q => ?_⟩
  · cases d with
    | tup ds => exact ⟨q.1, h.1 ds ρ Q E q.2⟩
    | _ => exact (show False from q).elim
  · cases d with
    | tup ds => exact ⟨q.1, h.2 ds ρ _ _ E hq q.2⟩
    | _ => exact (show False from q).elim
theorem gOf_sh {g : Sg} : ∀ {n : Nat} {e : Expr} {p : List Nat × CG}, gOf g n e = some p → GSh p.1 p.2 ∧ GMo p.2
  | 0, _, _, h => by simp [gOf] at h
  | n + 1, e, p, h => by
    unfold gOf at h
    split at h
    · split at h
      · split at h
        · rename_i i hi; cases h; exact gNm_sh i
        · cases h
      · cases h
    · rename_i es k tp
      split at h
      · rename_i hp
        split at h
        · rename_i s c hf
          cases h
          have main : ∀ (es : List Expr) (s : List Nat) (c : List D → Env → M Env), (es.foldr (fun e acc => match gOf g n e, acc with
              | some (s, c), some (s2, c2) => some (s ++ s2, gsCons c c2)
              | _, _ => none) (some ([], gsNil)) : Option (List Nat × (List D → Env → M Env))) = some (s, c) → GsSh s c ∧ GsMo c := by
            intro es
            induction es with
            | nil => intro s c h; cases h; exact gsNil_sh
            | cons e es ih =>
              intro s c h
              rw [List.foldr_cons] at h
              split at h
              · rename_i s1 c1 s2 c2 h1 h2
                cases h
                exact gsCons_sh (gOf_sh (p := (s1, c1)) h1) (ih _ _ h2)
              · cases h
          exact gTp_sh (main es s c hf)
        · cases h
      · cases h
    · cases h
theorem REnv.extChg {K : PySem.W.Frag} {B F0 F H : Hp} {σ : L2.St} {ρ : Env} (re : REnv K B F0 F H σ ρ) {p : Addr} {o : HO} (hB : B p = none) (hF : F p = none) (ne : ∀ (i : Nat) (d : D) (z : Option Addr), ρ[i]? = some (Cell.ow d z) → σ[i]? ≠ some (some (V.ref p))) : REnv K B F0 F (upd H p o) σ ρ where
  bh := fun b u z => by rw [upd_ne (ne_of_none z hB)]; exact re.bh b u z
  f0 := re.f0
  fh := fun b u z => by rw [upd_ne (ne_of_none z hF)]; exact re.fh b u z
  fr := re.fr
  len := re.len
  cell := fun i c e => by
    obtain ⟨w, w1, w2⟩ := re.cell i c e
    refine ⟨w, w1, ?_⟩
    cases c with
    | no => trivial
    | sh d => exact w2
    | ow d z =>
      obtain ⟨q, rfl, q1, q2, q3, q4⟩ := w2
      exact ⟨q, rfl, q1, q2, q3.upd_ne (fun h => by subst h; exact ne i d z e w1), q4⟩
  dis := re.dis
def lcA (g : CG) (t : CT) (e : CB) (ρ : Env) : List D → List D → M (List D)
  | [], acc => ret acc
  | d :: ds, acc => bnd (g d ρ) fun ρ' => bnd (t ρ') fun b => if b = true then bnd (e ρ') fun x Q E => acc.length < sizeLine ∧ lcA g t e ρ ds (acc ++ [x]) Q E else lcA g t e ρ ds acc
def lcM2 (g : CG) (t : CT) (ci : CI) (g1 : CG) (t1 : CT) (vs1 : List Nat) (e : CB) (ρ : Env) : List D → List D → M (List D)
  | [], acc => ret acc
  | d :: ds, acc => bnd (g d ρ) fun ρ' => bnd (t ρ') fun b => if b = true then bnd (ci ρ') fun ds1 => bnd (lcA g1 t1 e (wipeE ρ' vs1) ds1 acc) fun acc' => lcM2 g t ci g1 t1 vs1 e ρ ds acc' else lcM2 g t ci g1 t1 vs1 e ρ ds acc
def cLc2 (vs vs1 : List Nat) (it : CI) (g : CG) (t : CT) (ci : CI) (g1 : CG) (t1 : CT) (e : CB) : CV := fun ρ => bnd (it ρ) fun ds Q E => lcM2 g t ci g1 t1 vs1 e (wipeE ρ vs) ds [] (fun r => Q (.lst r, true)) E
theorem wipeE_ow {ρ : Env} {i : Nat} {d : D} {z : Option Addr} : ∀ {vs : List Nat}, (wipeE ρ vs)[i]? = some (.ow d z) → i ∉ vs ∧ ρ[i]? = some (.ow d z)
  | [], h => ⟨by simp, h⟩
  | v :: vs, h => by
    rcases set_at (show ((wipeE ρ vs).set v .no)[i]? = _ from h) with ⟨_, _, q⟩ | ⟨hn, q⟩
    · cases q
    · obtain ⟨a, b⟩ := wipeE_ow q
      exact ⟨by rw [List.mem_cons]; rintro (z | z); exact hn z; exact a z, b⟩
theorem lc2_imp {K : PySem.W.Frag} {E : Xn → Prop} {ci c1 : CI} {g g1 : CG} {t t1 : CT} {xe : CB} {vs : List Nat} {sl sl1 : List Nat} {σ : L2.St} {H : Hp} {Q' : VK} (hsl : ∀ i ∈ sl, i ∈ vs) (gsh : GSh sl g) (h : rdV K E (cLc2 vs sl1 ci g t c1 g1 t1 xe) σ H Q') :
    tLc2 (rdI K E ci) (rdG K E sl g) (rdT K E t) (rdI K E c1) (rdG K E sl1 g1) (rdT K E t1) (rdF K E xe) vs sl1 σ H Q' := by
  obtain ⟨B, F0, F, ρ, Q, re, h, k⟩ := h
  refine ⟨B, F0, F, ρ, _, re, h, fun J H1 F1 ds gr1 io q => ?_⟩
  intro Dn hD
  have re1 := re.grow gr1
  have hBD : B Dn = none := re1.bh.free hD
  refine ⟨fun i m H2 => m = ds.length - i ∧ i ≤ ds.length ∧ ∃ F2 acc out, Grow F1 H1 F2 H2 ∧ F2 Dn = none ∧ H2 Dn = some (.lst acc) ∧ RepL K F2 acc out ∧ lcM2 g t c1 g1 t1 sl1 xe (wipeE ρ vs) (ds.drop i) out (fun r => Q (.lst r, true)) E,
    ⟨ds.length, by simp, Nat.zero_le _, F1, [], [], Grow.own gr1.fh hD _, gr1.fh.free hD, upd_same, .nil, q⟩, ?_⟩
  rintro i m H2 ⟨rfl, hi, F2, acc, out, g2, fD, hDn, ra, q2⟩
  obtain ⟨i1, i2⟩ := io F2 H2 g2.f g2.fh
  have st : ∀ {Fa Ha F' H' : Hp} {acc : List V}, Fa Dn = none → Ha Dn = some (.lst acc) → Grow Fa Ha F' H' → F' Dn = none ∧ H' Dn = some (.lst acc) := fun {Fa Ha F' H' acc} hf hh gg => by
    refine ⟨?_, gg.h _ _ hh⟩
    cases z : F' Dn with
    | none => rfl
    | some u =>
      rcases gg.nw Dn u z with w | w
      · rw [hf] at w; cases w
      · rw [hh] at w; cases w
  -- the new list grows
  have put : ∀ {F' H' : Hp} {o : HO}, Grow F1 H1 F' H' → F' Dn = none → Grow F1 H1 F' (upd H' Dn o) := fun {F' H' o} gg s1 => by
    refine ⟨fun b u z => ?_, gg.f, fun b u z => ?_, gg.nw⟩
    · rw [upd_ne (ne_of_none z hD)]; exact gg.h b u z
    · rw [upd_ne (ne_of_none z s1)]; exact gg.fh b u z
  by_cases hlt : i < ds.length
  · have e : ds[i]? = some ds[i] := List.getElem?_eq_getElem hlt
    obtain ⟨go, yl⟩ := i2 i _ e
    rw [List.drop_eq_getElem_cons hlt] at q2
    refine .inr ⟨go, fun H' => ∃ F2 acc out, Grow F1 H1 F2 H' ∧ F2 Dn = none ∧ H' Dn = some (.lst acc) ∧ RepL K F2 acc out ∧ lcM2 g t c1 g1 t1 sl1 xe (wipeE ρ vs) (ds.drop (i + 1)) out (fun r => Q (.lst r, true)) E,
      fun H' ⟨F3, a3, o3, w⟩ => ⟨ds.length - (i + 1), by omega, rfl, hlt, F3, a3, o3, w⟩, fun x H3 y => ?_⟩
    obtain ⟨F3, g3, r3⟩ := yl x H3 y
    have re3 := (re.grow ((gr1.trans g2).trans g3)).wipe vs
    refine ⟨B, F0, F3, _, _, _, re3, r3, gsh _ _ _ _ q2, fun σ4 ρ4 l4 k4 re4 q4 => ⟨?_, ?_⟩⟩
    · rw [← wipe_idem (σ := σ)]
      exact wipe_eq l4 fun j hj => k4 j fun z => hj (hsl j z)
    · obtain ⟨q4, own4⟩ := q4
      -- nobody's own is the new list
      have ne4 : ∀ (j : Nat) (d : D) (z : Option Addr), ρ4[j]? = some (Cell.ow d z) → σ4[j]? ≠ some (some (V.ref Dn)) := fun j d z hj hs => by
        obtain ⟨n1, w1⟩ := own4 j d z hj
        obtain ⟨n2, w2⟩ := wipeE_ow w1
        rw [k4 j n1, wipe_out n2] at hs
        obtain ⟨v, h1, p, rfl, _, _, h2, _⟩ := re1.cell j _ w2
        rw [hs] at h1
        cases h1
        obtain ⟨u, hu⟩ := h2.there
        rw [hD] at hu; cases hu
      refine ⟨B, F0, F3, ρ4, _, re4, q4, fun b H5 F5 g5 q5 => ?_⟩
      have g25 := g2.trans (g3.trans g5)
      obtain ⟨s5, t5⟩ := st (st fD hDn g3).1 (st fD hDn g3).2 g5
      have ra5 := ra.mono (g3.trans g5).f
      cases b with
      | false =>
        show ∃ F2 acc out, _
        exact ⟨F5, acc, out, g25, s5, t5, ra5, q5⟩
      | true =>
        show rdI K E c1 σ4 H5 _
        refine ⟨B, F0, F5, ρ4, _, re4.grow g5, (show bnd (c1 ρ4) _ _ E from q5), fun J1 H6 F6 es g6 io1 q6 => ?_⟩
        obtain ⟨s6, t6⟩ := st s5 t5 g6
        refine ⟨fun j m H7 => m = es.length - j ∧ j ≤ es.length ∧ ∃ F7 acc out, Grow F1 H1 F7 H7 ∧ Same F6 F7 ∧ REnv K B F0 F7 H7 σ4 ρ4 ∧ F7 Dn = none ∧ H7 Dn = some (.lst acc) ∧ RepL K F7 acc out ∧ lcA g1 t1 xe (wipeE ρ4 sl1) (es.drop j) out (fun acc' => lcM2 g t c1 g1 t1 sl1 xe (wipeE ρ vs) (ds.drop (i + 1)) acc' (fun r => Q (.lst r, true)) E) E,
          ⟨es.length, by simp, Nat.zero_le _, F6, acc, out, g25.trans g6, Same.refl _, (re4.grow g5).grow g6, s6, t6, ra5.mono g6.f, q6⟩, ?_⟩
        rintro j m H7 ⟨rfl, hj, F7, acc7, out7, g7, sm7, re7, s7, t7, ra7, q7⟩
        obtain ⟨k1, k2⟩ := io1 F7 H7 sm7 g7.fh
        by_cases hjl : j < es.length
        · obtain ⟨go1, yl1⟩ := k2 j _ (List.getElem?_eq_getElem hjl)
          rw [List.drop_eq_getElem_cons hjl] at q7
          refine .inr ⟨go1, fun H' => ∃ F7 acc out, Grow F1 H1 F7 H' ∧ Same F6 F7 ∧ REnv K B F0 F7 H' σ4 ρ4 ∧ F7 Dn = none ∧ H' Dn = some (.lst acc) ∧ RepL K F7 acc out ∧ lcA g1 t1 xe (wipeE ρ4 sl1) (es.drop (j + 1)) out (fun acc' => lcM2 g t c1 g1 t1 sl1 xe (wipeE ρ vs) (ds.drop (i + 1)) acc' (fun r => Q (.lst r, true)) E) E,
            fun H' ⟨F8, a8, o8, w⟩ => ⟨es.length - (j + 1), by omega, rfl, hjl, F8, a8, o8, w⟩, fun x H8 y => ?_⟩
          obtain ⟨F8, g8, r8⟩ := yl1 x H8 y
          have re8 := (re7.grow g8).wipe sl1
          refine ⟨B, F0, F8, _, _, _, re8, r8, q7, fun σ9 ρ9 l9 k9 re9 q9 => ⟨?_, B, F0, F8, ρ9, _, re9, q9, fun b H10 F10 g10 q10 => ?_⟩⟩
          · rw [← wipe_idem (σ := σ4)]
            exact wipe_eq l9 fun j hj => k9 j hj
          · have g810 := g8.trans g10
            obtain ⟨s10, t10⟩ := st s7 t7 g810
            cases b with
            | false =>
              show ∃ F2 acc out, _
              exact ⟨F10, acc7, out7, g7.trans g810, sm7.trans g810.f, re7.grow g810, s10, t10, ra7.mono g810.f, q10⟩
            | true =>
              show rdF K E xe σ9 H10 _
              refine ⟨B, F0, F10, ρ9, _, re9.grow g10, (show bnd (xe ρ9) (fun x Q E => out7.length < sizeLine ∧ lcA g1 t1 xe (wipeE ρ4 sl1) (List.drop (j + 1) es) (out7 ++ [x]) Q E) _ E from q10), fun v H11 F11 d g11 r11 q11 => ?_⟩
              have ga := g810.trans g11
              obtain ⟨s11, t11⟩ := st s7 t7 ga
              have q11 : out7.length < sizeLine ∧ lcA g1 t1 xe (wipeE ρ4 sl1) (es.drop (j + 1)) (out7 ++ [d]) _ E := q11
              refine ⟨acc7, t11, by rw [ra7.length]; exact q11.1, F11, _, out7 ++ [d], put (g7.trans ga) s11, sm7.trans ga.f, (re7.grow ga).extChg hBD s11 ne4, s11, upd_same, (ra7.mono ga.f).append (.cons r11 .nil), q11.2⟩
        · have e : j = es.length := by omega
          subst e
          rw [List.drop_length] at q7
          exact .inl ⟨k1, F7, acc7, out7, g7, s7, t7, ra7, q7⟩
  · have e : i = ds.length := by omega
    subst e
    rw [List.drop_length] at q2
    have q3 : Q (.lst out, true) := q2
    exact .inl ⟨i1, k _ H2 F2 (.lst out, true) (gr1.trans g2) (Val.own (gr1.h.free hD) fD ⟨acc, hDn, ra⟩) q3⟩
def vLc2 : VR := fun r g e => match e with
  | .ListComp elt [⟨tg, iter, ifs, 0⟩, ⟨tg1, iter1, ifs1, 0⟩] scope _ =>
    match lcOf r g elt tg iter ifs scope with
    | some d => if plainE iter1 = true then match gOf (blkSg g scope) 6 tg, r.i (blkSg g scope) tg1 iter1, gOf (blkSg g scope) 6 tg1, testsOf r (blkSg g scope) ifs1 with
      | some (sl, gg), some c1, some (sl1, g1), some t1 => if ((sl.all fun i => decide (i ∈ (ownOf g scope).map (·.2))) && (sl1.all fun i => decide (i ∈ (ownOf g scope).map (·.2)))) = true then some (cLc2 ((ownOf g scope).map (·.2)) sl1 d.ci gg d.t c1 g1 t1 d.xe) else none
      | _, _, _, _ => none else none
    | none => none
  | _ => none
theorem lcOf_own {r : Rec} {g : Sg} {elt tg iter : Expr} {ifs : List Expr} {scope : Scope} {d : LcD} (h : lcOf r g elt tg iter ifs scope = some d) : d.own = ownOf g scope ∧ (blkSg g scope).st.all (stB (relS scope g.sc) scope) = true ∧ (blkSg g scope).sc.kind = .function := by
  unfold lcOf at h
  split at h
  · rename_i hb
    rw [Bool.and_eq_true, Bool.and_eq_true, Bool.and_eq_true] at hb
    obtain ⟨⟨⟨b1, b2⟩, b3⟩, b4⟩ := hb
    split at h
    · split at h
      · cases h; exact ⟨rfl, b2, of_decide_eq_true b4⟩
      · cases h
    · cases h
  · cases h
theorem vLc2_ok : VrOk vLc2 := by
  intro r R X g E e c ok h
  unfold vLc2 at h
  split at h
  · rename_i elt tg iter ifs tg1 iter1 ifs1 scope pos
    split at h
    · rename_i d hd
      have L := lcOf_ok (E := E) R ok hd
      obtain ⟨eo, b2, b4⟩ := lcOf_own hd
      split at h
      · rename_i hpl
        split at h
        · rename_i sl gg c1 sl1 g1 t1 h0 h1 h2 h3
          split at h
          · rename_i hs
            cases h
            rw [Bool.and_eq_true] at hs
            have bk := blkSg_ok ok b2 b4
            have hsl : ∀ i ∈ sl, i ∈ (ownOf g scope).map (·.2) := fun i hi => of_decide_eq_true (List.all_eq_true.mp hs.1 i hi)
            have hsl1 : ∀ i ∈ sl1, i ∈ (ownOf g scope).map (·.2) := fun i hi => of_decide_eq_true (List.all_eq_true.mp hs.2 i hi)
            have tests : ∀ (s : Shared) (H : Hp) (C : Addr) (cl : List (Str × Addr)) (fp : List Addr), PTs (X.blk s H scope (compEnvC scope cl C X.env) fp) ifs1 (rdT X.K E t1) := fun s H C cl fp => by
              unfold testsOf at h3
              split at h3
              · cases h3; exact rts_nil
              · exact pts_one (R.t (bk s H C cl fp) h3)
              · cases h3
            have hok := L.ok
            rw [eo] at hok
            exact (pe_lc2 (vs1 := sl1) ok.calm (by rw [ok.N]; exact ok.nd) L.hi hok hsl1 (fun s H C cl fp => gOf_ok (p := (sl, gg)) (bk s H C cl fp) h0) L.ht (fun s H C cl fp => R.i (bk s H C cl fp) h1) (fun s H C cl fp => gOf_ok (p := (sl1, g1)) (bk s H C cl fp) h2) tests L.he L.hs (fun env x => plain_set hpl x)).imp
              fun σ H Q' h => lc2_imp hsl (gOf_sh (p := (sl, gg)) h0).1 h
          · cases h
        · cases h
      · cases h
    · cases h
  · cases h
end DL

namespace DL
open PySem L2 PySem.Spec PyProof.Rows

/-! ### sorted(a dict whose keys are ints), of any length -/
theorem call_sortedDA {X : Cx} (hcalm : X.calm = true) : CallR X (.builtin "sorted") (fun xs H Q => ∃ (a : Addr) (kvs : List (Key × V)) (ks : List Int), xs = [.ref a] ∧ Rd H a (.dK kvs) ∧ kvs.map (·.1) = ks.map Sum.inl ∧
    ∀ (ys : List Int) (p : Addr), ys.Perm ks → ys.Pairwise (· ≤ ·) → H p = none → Q (.ref p) (upd H p (.lst (ys.map V.int)))) := by
  intro pins s σ H xs us Q I r q
  obtain ⟨a, kvs, ks, ex, hd, hks, q⟩ := q
  subst ex
  obtain ⟨u, eu, rx⟩ := vals1 r
  subst eu
  cases rx
  obtain ⟨z, lo, vs, rel, dd⟩ := dk_rd I.hok hd
  obtain ⟨ep, hat⟩ := dd.dictAt
  have hkeys : vs.map (·.1) = ks.map Sum.inl := rel.keys.symm.trans hks
  have hl : vs.length = ks.length := by
    have e := congrArg List.length hkeys
    rw [List.length_map, List.length_map] at e
    exact e
  have hl2 : kvs.length = ks.length := by
    have e := congrArg List.length hks
    rw [List.length_map, List.length_map] at e
    exact e
  have h16 : vs.length ≤ sizeLine := by rw [hl, ← hl2]; exact z
  refine Calls.call_function_entry PyProof.Rows.kind_sorted PyProof.Rows.plain_sorted PyProof.Rows.entry_sorted (PyProof.Rows.args_sorted1 _) ?_
  unfold Builtin.«sorted»
  refine wpAny_bind (m := checkCount "sorted" 1 1 _) (wpAny_pure ?_)
  refine wpAny_bind (PySem.W.kdu_collect (A := X.A.in1) (PySem.W.kdl_dict (knd := mixKind X.prog X.w) (kvs := vs) (ep := ep) lo) (I.ok.hd hcalm) hat h16 fun h' tk acc hk hacc => ?_)
  have hal : acc.toList.length = ks.length := by rw [Array.length_toList, hacc.1, hl]
  have hS : IntsAre acc.toList ks := ints_each hal fun j v e => by
    obtain ⟨k, x, e1, e2⟩ := hacc.2 j v (by rw [← Array.getElem?_toList]; exact e)
    have e3 : (vs.map (·.1))[j]? = some k := by rw [List.getElem?_map, e1]; rfl
    rw [hkeys, List.getElem?_map] at e3
    cases e4 : ks[j]? with
    | none => rw [e4] at e3; cases e3
    | some y =>
      rw [e4] at e3
      have e5 : Sum.inl y = k := Option.some.inj e3
      subst e5
      rcases keyIs_shape (show keyIs (Sum.inl y) v = true from e2) with ⟨i, t, ek, ev⟩ | ⟨z, t, ek, ev⟩
      · cases ek
        exact ⟨y, t, rfl, ev⟩
      · cases ek
  have I1 : Inv X pins σ H { s with heap := h', toks := tk } := I.kept hk
  have hzL : acc.toList.length ≤ sizeLine := by rw [hal, ← hl]; exact h16
  refine wpAny_bind (wpAny_newList ?_ hzL)
  have hoL : (h'.push (seqObj "list" acc.toList.toArray 0)).get? h'.objs.size = some (seqObj "list" acc.toList.toArray 0) := Heap.get?_push_size _ rfl
  show wpAny _ _ _ _ _ { s with heap := h'.push (seqObj "list" acc.toList.toArray 0), toks := tk }
  refine wpAny_bind (wpAny_holding (wpAny_call_entry PyProof.Rows.slot_list_sort ⟨_, hoL, rfl⟩ PyProof.Rows.entry_list_sort
    (SrtO.list_sort_ord (s := { s with heap := h'.push (seqObj "list" acc.toList.toArray 0), toks := tk }) SrtO.swo_int hoL hzL (fun h2 => SrtO.ints_sortable hS h2) fun out g1 g2 => ⟨_, rfl, ?_⟩) (PyProof.Rows.args_list_sort _)))
  obtain ⟨k1, k2, k3⟩ := SrtO.ints_out hS g1 g2
  obtain ⟨e', he'⟩ := PyProof.Rows.sortedHeap_at (vs := acc.toList) (out := out.toArray) hoL
  have hlen : ((out.map SrtO.iv).map V.int).length ≤ sizeLine := by
    rw [List.length_map, k2.length_eq, ← hl]
    exact h16
  refine wpAny_pure ⟨_, rfl, .ref h'.objs.size, upd H h'.objs.size (.lst ((out.map SrtO.iv).map V.int)), I1.laid (t' := tk) (fun b u e => ?_) (Nat.le_refl _)
    (show ObjOk X.prog X.w _ _ _ (.lst ((out.map SrtO.iv).map V.int)) from ⟨hlen, out, e', vals_of_ints k1, he'⟩), rfl, q _ _ k2 k3 (I1.hok.fresh (Nat.le_refl _))⟩
  have hb : b < h'.objs.size := Heap.lt_size e
  rw [PyProof.Rows.sortedHeap_old (Nat.ne_of_lt hb) (by rw [size_push']; exact Nat.lt_succ_of_lt hb)]
  exact Heap.get?_push_of_some _ e
def keysI : List (D × D) → Option (List Int)
  | [] => some []
  | (.int i, _) :: r => (keysI r).map (i :: ·)
  | _ => none
theorem keysI_is {K : PySem.W.Frag} {H : Hp} : ∀ {kvs : List (D × D)} {ks : List (Key × V)} {ns : List Int}, RepK K H ks kvs → keysI kvs = some ns → ks.map (·.1) = ns.map Sum.inl
  | [], _, _, .nil, e => by simp only [keysI, Option.some.injEq] at e; subst e; rfl
  | p :: kvs, ks, ns, r, e => by
    cases r with
    | @cons k v d ks kvs r t =>
      cases k with
      | inl i =>
        have e : (keysI kvs).map (i :: ·) = some _ := e
        cases q : keysI kvs with
        | none => rw [q] at e; cases e
        | some ns => rw [q] at e; cases e; rw [List.map_cons, List.map_cons, keysI_is t q]
      | inr z => exact absurd (show (none : Option (List Int)) = some _ from e) (by simp)
def sortedM2 : List D → M (D × Bool)
  | [.lst ds] => fun Q _ => match intsD ds with | some ns => Q (.lst ((srtI ns).map D.int), true) | none => False
  | [.dct kvs] => fun Q _ => match keysI kvs with | some ns => Q (.lst ((srtI ns).map D.int), true) | none => False
  | _ => fail
theorem b_sorted2 {X : Cx} (hc : X.calm = true) : CallR X (.builtin "sorted") (rcM X.K sortedM2) := by
  intro pins s σ H xs us Q I r h
  obtain ⟨F, ds, Q2, E, sm, b, h, k⟩ := h
  unfold sortedM2 at h
  split at h
  · obtain ⟨v, rfl, b1⟩ := b.one
    obtain ⟨a, vs, rfl, ha, ra⟩ := b1.lst sm
    split at h
    · rename_i ns e
      cases ra.ints e
      refine cr_sortedI pins s σ H _ us Q I r ⟨_, ns, rfl, SqL.of ha, fun ns' p pm so hp => ?_⟩
      have e2 : ns' = srtI ns := sorted_one (pm.trans (srtI_perm ns).symm) so (srtI_sorted ns)
      rw [e2]
      exact new_own sm (repL_ints _) h k p hp
    · exact h.elim
  · rename_i kvs
    obtain ⟨v, rfl, b1⟩ := b.one
    split at h
    · rename_i ns e
      have fin : ∃ a ks, v = V.ref a ∧ H a = some (.dK ks) ∧ RepK X.K F ks kvs := by
        rcases b1 with b | ⟨p, rfl, ks, h, r⟩
        · cases b with
          | dct h r => exact ⟨_, _, rfl, sm _ _ h, r⟩
        · exact ⟨p, ks, rfl, h, r⟩
      obtain ⟨a, ks, rfl, ha, ra⟩ := fin
      refine call_sortedDA hc pins s σ H _ us Q I r ⟨a, ks, ns, rfl, .inl ha, keysI_is ra e, fun ns' p pm so hp => ?_⟩
      have e2 : ns' = srtI ns := sorted_one (pm.trans (srtI_perm ns).symm) so (srtI_sorted ns)
      rw [e2]
      exact new_own sm (repL_ints _) h k p hp
    · exact h.elim
  · exact h.elim

/-! ### the rules in use -/
def rules : Rules where
  v := [vName, vConst, vBin, vBool, vCmp, vRev, vSeq, vIsi, vLRg, vBest, vSrtSet, vCall, vLc, vLc2]
  i := [iRange, iEnum, iZip, iPlain]
  s := [sRetOwn, sExpr, sName, sPair, sTup, sTup2, sSub, sFlow]
theorem rules_ok : RulesOk rules where
  v := fun f hf => by
    simp only [rules, List.mem_cons, List.not_mem_nil, or_false] at hf
    rcases hf with rfl | rfl | rfl | rfl | rfl | rfl | rfl | rfl | rfl | rfl | rfl | rfl | rfl | rfl
    · exact vName_ok
    · exact vConst_ok
    · exact vBin_ok
    · exact vBool_ok
    · exact vCmp_ok
    · exact vRev_ok
    · exact vSeq_ok
    · exact vIsi_ok
    · exact vLRg_ok
    · exact vBest_ok
    · exact vSrtSet_ok
    · exact vCall_ok
    · exact vLc_ok
    · exact vLc2_ok
  i := fun f hf => by
    simp only [rules, List.mem_cons, List.not_mem_nil, or_false] at hf
    rcases hf with rfl | rfl | rfl | rfl
    · exact iRange_ok
    · exact iEnum_ok
    · exact iZip_ok
    · exact iPlain_ok
  s := fun f hf => by
    simp only [rules, List.mem_cons, List.not_mem_nil, or_false] at hf
    rcases hf with rfl | rfl | rfl | rfl | rfl | rfl | rfl | rfl
    · exact sRetOwn_ok
    · exact sExpr_ok
    · exact sName_ok
    · exact sPair_ok
    · exact sTup_ok
    · exact sTup2_ok
    · exact sSub_ok
    · exact sFlow_ok
end DL

namespace DL
open PySem L2 PySem.Spec PyProof.Rows

/-! ### dict displays -/
def kvD : List (D × D) → Option (List (Key × D))
  | [] => some []
  | (k, v) :: r => match keyD k, kvD r with
    | some y, some l => some ((y, v) :: l)
    | _, _ => none
def prM : List (CB × CB) → Env → M (List (D × D))
  | [], _ => ret []
  | (a, b) :: r, ρ => bnd (a ρ) fun x => bnd (b ρ) fun y => bnd (prM r ρ) fun l => ret ((x, y) :: l)
def cDct (ps : List (CB × CB)) : CV := fun ρ => bnd (prM ps ρ) fun l Q _ => match kvD l with
  | some kvs => Q (.dct (unK (mergeG [] kvs)), true)
  | none => False
inductive RepVV (K : PySem.W.Frag) (F : Hp) : List (V × V) → List (D × D) → Prop
  | nil : RepVV K F [] []
  | cons {x y : V} {d e : D} {ps : List (V × V)} {l : List (D × D)} : Rep K F x d → Rep K F y e → RepVV K F ps l → RepVV K F ((x, y) :: ps) ((d, e) :: l)
theorem RepVV.kvs {K : PySem.W.Frag} {F : Hp} : ∀ {l : List (D × D)} {ps : List (V × V)} {kvs : List (Key × D)}, RepVV K F ps l → kvD l = some kvs → ∃ ks : List (Key × V), ps = ks.map (fun kv => (kV kv.1, kv.2)) ∧ RepP K F ks kvs ∧ ks.length = l.length
  | [], _, _, .nil, e => by simp only [kvD, Option.some.injEq] at e; subst e; exact ⟨[], rfl, .nil, rfl⟩
  | (d, v) :: l, _, _, .cons r1 r2 t, e => by
    simp only [kvD] at e
    split at e
    · rename_i y m e1 e2
      cases e
      obtain ⟨ks, rfl, h, hl⟩ := RepVV.kvs t e2
      have := key_is r1 e1
      subst this
      exact ⟨(y, _) :: ks, rfl, .cons r2 h, by rw [List.length_cons, List.length_cons, hl]⟩
    · cases e
theorem pairs_imp {K : PySem.W.Frag} {E : Xn → Prop} {B F0 : Hp} {σ : L2.St} {ρ : Env} : ∀ (ps : List (CB × CB)) {F H : Hp} {Q : List (D × D) → Prop} {R : List (V × V) → Hp → Prop}, REnv K B F0 F H σ ρ → prM ps ρ Q E →
    (∀ vs H' F' l, Grow F H F' H' → RepVV K F' vs l → l.length = ps.length → Q l → R vs H') → tPairs (ps.map fun p => (rdF K E p.1, rdF K E p.2)) σ H R
  | [], F, H, Q, R, re, h, k => k [] H F [] re.gr .nil rfl h
  | (a, b) :: ps, F, H, Q, R, re, h, k => by
    refine ⟨B, F0, F, ρ, _, re, h, fun x H1 F1 d g1 r1 h1 => ⟨B, F0, F1, ρ, _, re.grow g1, h1, fun y H2 F2 e g2 r2 h2 => ?_⟩⟩
    refine pairs_imp ps ((re.grow g1).grow g2) h2 fun vs H3 F3 l g3 r3 hl q => ?_
    exact k _ H3 F3 _ ((g1.trans g2).trans g3) (.cons (r1.mono (g2.trans g3).f) (r2.mono g3.f) r3) (by rw [List.length_cons, List.length_cons, hl]) q
theorem unK_rep {K : PySem.W.Frag} {F : Hp} {ks : List (Key × V)} {kvs : List (Key × D)} (h : RepP K F ks kvs) : RepK K F (mergeK [] ks) (unK (mergeG [] kvs)) := (h.merge .nil).rep
theorem re_dct0 {X : Cx} {E : Xn → Prop} {pos : Pos} : PE X (.Dict [] [] pos) (rdV X.K E (cDct [])) := pe_dnewK.imp fun σ H Q' ⟨B, F0, F, ρ, Q, re, h, k⟩ p hp =>
  k (.ref p) _ F (.dct [], true) (Grow.own re.fh hp _) (Val.own (d := .dct []) hp (re.fh.free hp) ⟨[], upd_same, .nil⟩) h
theorem re_dct {X : Cx} {E : Xn → Prop} {pos : Pos} {keys : List (Option Expr)} {values : List Expr} {ps : List (CB × CB)} (h : PPs X pos keys values (ps.map fun p => (rdF X.K E p.1, rdF X.K E p.2))) (hall : keys.all (·.isSome) = true) (hl : keys.length = values.length)
    (h0 : keys ≠ []) (h15 : keys.length ≤ 15) (hps : ps.length ≤ 15) : PE X (.Dict keys values pos) (rdV X.K E (cDct ps)) :=
  (pe_disp h hall hl h0 h15).imp fun σ H Q' ⟨B, F0, F, ρ, Q, re, h, k⟩ p hp => by
    have ga := Grow.own re.fh hp (.dK [])
    refine pairs_imp ps (re.grow ga) h fun vs H2 F2 l g2 r2 hlen q => ?_
    have hp2 := g2.h _ _ upd_same
    have hF2 : F2 p = none := by
      cases z : F2 p with
      | none => rfl
      | some u =>
        rcases g2.nw p u z with w | w
        · rw [re.fh.free hp] at w; cases w
        · rw [upd_same] at w; cases w
    have q : (match kvD l with | some kvs => Q (.dct (unK (mergeG [] kvs)), true) | none => False) := q
    split at q
    · rename_i kvs e
      obtain ⟨ks, rfl, rp, hk⟩ := r2.kvs e
      refine ⟨hp2, ks, rfl, by rw [hk, hlen]; exact hps, ?_⟩
      have gg := ga.trans g2
      refine k (.ref p) _ F2 _ ⟨fun b u z => ?_, gg.f, fun b u z => ?_, gg.nw⟩ (Val.own (d := .dct (unK (mergeG [] kvs))) hp hF2 ⟨_, upd_same, unK_rep rp⟩) q
      · rw [upd_ne (ne_of_none z hp)]; exact gg.h b u z
      · rw [upd_ne (ne_of_none z hF2)]; exact gg.fh b u z
    · exact q.elim
def psOf (r : Rec) (g : Sg) : List (Option Expr) → List Expr → Option (List (CB × CB))
  | [], [] => some []
  | some k :: ks, v :: vs => match fOf r g k, fOf r g v, psOf r g ks vs with
    | some a, some b, some l => some ((a, b) :: l)
    | _, _, _ => none
  | _, _ => none
theorem psOf_ok {r : Rec} (R : RecOk r) {X : Cx} {g : Sg} {E : Xn → Prop} {pos : Pos} (ok : SgOk X g) : ∀ {keys : List (Option Expr)} {values : List Expr} {ps : List (CB × CB)}, psOf r g keys values = some ps →
    PPs X pos keys values (ps.map fun p => (rdF X.K E p.1, rdF X.K E p.2)) ∧ keys.all (·.isSome) = true ∧ keys.length = values.length ∧ ps.length = keys.length
  | [], [], _, h => by simp only [psOf, Option.some.injEq] at h; subst h; exact ⟨pps_nil, rfl, rfl, rfl⟩
  | some k :: ks, v :: vs, _, h => by
    simp only [psOf] at h
    split at h
    · rename_i a b l h1 h2 h3
      cases h
      obtain ⟨q1, q2, q3, q4⟩ := psOf_ok (E := E) (pos := pos) R ok h3
      exact ⟨pps_cons (fOf_ok R ok h1) (fOf_ok R ok h2) q1, by rw [List.all_cons, q2]; rfl, by rw [List.length_cons, List.length_cons, q3], by rw [List.length_cons, List.length_cons, q4]⟩
    · cases h
  | [], _ :: _, _, h => by simp [psOf] at h
  | none :: _, _, _, h => by simp [psOf] at h
  | some _ :: _, [], _, h => by simp [psOf] at h
def vDct : VR := fun r g e => match e with
  | .Dict keys values _ => if keys.length ≤ 15 then (psOf r g keys values).map cDct else none
  | _ => none
theorem vDct_ok : VrOk vDct := by
  intro r R X g E e c ok h
  unfold vDct at h
  split at h
  · rename_i keys values pos
    split at h
    · rename_i h15
      obtain ⟨ps, h1, rfl⟩ := map_some h
      obtain ⟨q1, q2, q3, q4⟩ := psOf_ok (E := E) (pos := pos) R ok h1
      cases keys with
      | nil =>
        cases values with
        | nil => simp only [psOf, Option.some.injEq] at h1; subst h1; exact re_dct0
        | cons _ _ => cases q3
      | cons k ks => exact re_dct q1 q2 q3 (by simp) h15 (by rw [q4]; exact h15)
    · cases h
  · cases h

/-! ### sep.join(list of texts) -/
def joinM : D → D → M (D × Bool)
  | .str a, .lst ds => fun Q _ => match strsD ds with
    | some ys => (ys.map (·.length)).sum + ys.length * a.length ≤ 16777216 ∧ Q (.str (Txt.join a ys), false)
    | none => False
  | _, _ => fail
def cJoin (s : Str) (b : CB) : CV := fun ρ => bnd (b ρ) fun y => joinM (.str s) y
theorem re_join {X : Cx} {E : Xn → Prop} {s : Str} {kk : Nat} {e : Expr} {xb : CB} {apos pos p0 : Pos} (hb : PE X e (rdB X.K E xb)) (hs : starEach [e] X.env = [(false, eval e X.env)])
    (hbase : attributeBase (.Constant (.str s) kk p0) "join" X.env (eval (.Constant (.str s) kk p0) X.env) = eval (.Constant (.str s) kk p0) X.env)
    (hline : (apos.endLine == pos.line) = true) : PE X (.Call (.Attribute (.Constant (.str s) kk p0) "join" apos) [e] [] pos) (rdV X.K E (cJoin s xb)) :=
  (pe_join pe_str hb hs hbase hline).imp fun σ H Q' ⟨B, F0, F, ρ, Q, re, h, k⟩ => by
    refine ⟨⟨s, rfl⟩, B, F0, F, ρ, _, re, h, fun u H2 F2 d2 g2 b2 h2 => ?_⟩
    cases d2 with
    | lst ds =>
      have h2 : (match strsD ds with | some ys => (ys.map (·.length)).sum + ys.length * s.length ≤ 16777216 ∧ Q (.str (Txt.join s ys), false) | none => False) := h2
      split at h2
      · rename_i ys e2
        obtain ⟨p, vs, rfl, hp, rp⟩ := b2.lst g2.fh
        cases rp.strs e2
        exact ⟨s, p, ys, rfl, rfl, .inl (SqL.of hp), h2.1, k _ H2 F2 (.str (Txt.join s ys), false) g2 (Val.of (.str _)) h2.2⟩
      · exact h2.elim
    | _ => exact (show False from h2).elim
def vJoin : VR := fun r g e => match e with
  | .Call (.Attribute (.Constant (.str s) _ _) m ap) [a] [] cp => if m = ("join" : Str) ∧ (ap.endLine == cp.line) = true ∧ plainE a = true then (bOf r g a).map (cJoin s) else none
  | _ => none
theorem vJoin_ok : VrOk vJoin := by
  intro r R X g E e c ok h
  unfold vJoin at h
  split at h
  · split at h
    · rename_i hm
      obtain ⟨rfl, hl, hp⟩ := hm
      obtain ⟨x, h1, rfl⟩ := map_some h
      exact re_join (bOf_ok R ok h1) (plain_star hp) rfl hl
    · cases h
  · cases h

/-! ### tuples of texts among the module's constants -/
theorem GvB.strs {P : Program} {w : World} {K : PySem.W.Frag} {mg : Str → Option Value} {base : Heap} {k : Nat} {x : Str} {a : Addr} {od : Option Addr} {sl : Array (Option Value)} {n : Nat} {zs : List Str} {its : Array Value} (hm : mg x = some (.ref a))
    (hk : K.lookup a = some ⟨.type "tuple", od, .seq its n, sl⟩) (hz : its.size ≤ sizeLine) (hv : Vals (zs.map V.str) its.toList) : GvB P w K mg base k x (.cv (.tup (zs.map .str))) :=
  ⟨.ref a, .ref a, hm, rfl, fun F => .tup (.inr ⟨_, _, _, hk, rfl, rfl, hz, hv⟩) (repL_strs zs)⟩

def rules2 : Rules where
  v := [vName, vConst, vBin, vBool, vCmp, vRev, vSeq, vIsi, vLRg, vBest, vSrtSet, vCall, vLc, vLc2, vDct, vJoin]
  i := rules.i
  s := rules.s
theorem rules2_ok : RulesOk rules2 where
  v := fun f hf => by
    simp only [rules2, List.mem_cons, List.not_mem_nil, or_false] at hf
    rcases hf with rfl | rfl | rfl | rfl | rfl | rfl | rfl | rfl | rfl | rfl | rfl | rfl | rfl | rfl | rfl | rfl
    · exact vName_ok
    · exact vConst_ok
    · exact vBin_ok
    · exact vBool_ok
    · exact vCmp_ok
    · exact vRev_ok
    · exact vSeq_ok
    · exact vIsi_ok
    · exact vLRg_ok
    · exact vBest_ok
    · exact vSrtSet_ok
    · exact vCall_ok
    · exact vLc_ok
    · exact vLc2_ok
    · exact vDct_ok
    · exact vJoin_ok
  i := rules_ok.i
  s := rules_ok.s
end DL

namespace DL.K01
open PySem L2
local macro_rules | `(tactic| walk_at "dl") => `(tactic| simp only [ret, fail, bnd, frz, cC, cVar, bVar, cBin, cNeg, cNot, cAnd, cOr, cIf, vT, tCm, tCh, tTru, tNo, tAn, tOr', cNil, cCons, cTup, cLst, cIx, oNo, oIs, cSl, cCall, callD, cCallK, cB, sNil, sSeq, sDrop, sSet, sAsg, sPar, sRet, sRetN, sIf, sBrk, sCnt, sNo, sFor, sFrz, sApp, sPut, sSetU, uOf, uPop, uPopAt, isOwL, sAdopt,
  gNm, gTp, gsCons, gsNil, tYesD, cLc, iSeq, iRng, iEn, cIsi, cLRg, cBest, cSrtSet, cRev, iZp, cCallF, cCallKF, callF, sRetO, sRetF, tLend, frzE, cDct, prM, cJoin, cel, rgsM, len_lst, len_tup, len_dct, len_str, abs_int, list_lst, list_tup, tuple_lst, tuple_tup, items_lst, items_tup, items_str, enum_lst, enum_tup,
  bin_addI, bin_subI, bin_mulI, bin_divI, bin_modI, bin_powI, bin_addS, bin_addL, bin_addT, bin_mulL, bin_mulT, bin_mulS, cmp_eq, cmp_ne, cmp_lt, cmp_le, cmp_gt, cmp_ge, cmp_is, cmp_isnt, cmp_inS, cmp_ninS, eq_int, eq_str, ix_lst, ix_tup, tru_bl, tru_lst, tru_tup, tru_int, tru_non, non_non, non_int, non_str, non_bl, non_lst, non_tup, at_zero, at_one, at_two,
  isi_non, isi_bl, isi_int, isi_str, isi_lst, isi_tup, isi_dct, sub_tab, List.any_cons, List.any_nil, Bool.or_false, Bool.or_true, Bool.true_or, Bool.false_or, Bool.not_true, Bool.not_false,
  List.getElem?_cons_zero, List.getElem?_cons_succ, List.set_cons_zero, List.set_cons_succ, Bool.false_and, Bool.true_and, Bool.and_false, Bool.and_true, Bool.false_eq_true, if_true, if_false, ite_true, ite_false, List.length_cons, List.length_nil, List.length_map, true_and, and_true, ne_eq, not_true_eq_false, not_false_eq_true, reduceCtorEq, Nat.reduceAdd, Nat.zero_add, Int.cast_ofNat_Int, beq_self_eq_true, decide_true, decide_false, *])
local macro_rules | `(tactic| walk_at "dl0") => `(tactic| simp only [ret, fail, bnd, frz, cC, cVar, bVar, cBin, cNeg, cNot, cAnd, cOr, cIf, vT, tCm, tCh, tTru, tNo, tAn, tOr', cNil, cCons, cTup, cLst, cIx, oNo, oIs, cSl, cCall, callD, cCallK, cB, sNil, sSeq, sDrop, sSet, sAsg, sPar, sRet, sRetN, sIf, sBrk, sCnt, sNo, sFor, sFrz, sApp, sPut, sSetU, uOf, uPop, uPopAt, isOwL, sAdopt,
  gNm, gTp, gsCons, gsNil, tYesD, cLc, iSeq, iRng, iEn, cIsi, cLRg, cBest, cSrtSet, cRev, iZp, cCallF, cCallKF, callF, sRetO, sRetF, tLend, frzE, cDct, prM, cJoin, cel, rgsM, len_lst, len_tup, len_dct, len_str, abs_int, list_lst, list_tup, tuple_lst, tuple_tup, items_lst, items_tup, items_str, enum_lst, enum_tup,
  bin_addI, bin_subI, bin_mulI, bin_divI, bin_modI, bin_powI, bin_addS, bin_addL, bin_addT, bin_mulL, bin_mulT, bin_mulS, cmp_eq, cmp_ne, cmp_lt, cmp_le, cmp_gt, cmp_ge, cmp_is, cmp_isnt, cmp_inS, cmp_ninS, eq_int, eq_str, ix_lst, ix_tup, tru_bl, tru_lst, tru_tup, tru_int, tru_non, non_non, non_int, non_str, non_bl, non_lst, non_tup, at_zero, at_one, at_two,
  isi_non, isi_bl, isi_int, isi_str, isi_lst, isi_tup, isi_dct, sub_tab, List.any_cons, List.any_nil, Bool.or_false, Bool.or_true, Bool.true_or, Bool.false_or, Bool.not_true, Bool.not_false,
  List.getElem?_cons_zero, List.getElem?_cons_succ, List.set_cons_zero, List.set_cons_succ, Bool.false_and, Bool.true_and, Bool.and_false, Bool.and_true, Bool.false_eq_true, if_true, if_false, ite_true, ite_false, List.length_cons, List.length_nil, List.length_map, true_and, and_true, ne_eq, not_true_eq_false, not_false_eq_true, reduceCtorEq, Nat.reduceAdd, Nat.zero_add, Int.cast_ofNat_Int, beq_self_eq_true, decide_true, decide_false])
abbrev LET : Str := "abcdefghijklmnopqrstuvwxyz"
abbrev NLS : Str := "\n"
def isSome' (d : D) : Bool := (tyN d).isSome
def w1B (d : D) : Bool := isSome' d && (match d with | .str s => decide (s.length ≤ 1000) && PyData.strOk s | _ => true)
def pyB (d : D) : Bool := match d.py with | none => true | some p => p.canLay0 && decide (p.depth ≤ 10)
def w2B (d : D) : Bool := w1B d && pyB d
def wB (d : D) : Bool := w1B d && (match d with | .tup ds => decide (ds.length ≤ 1000) && ds.all w2B | _ => true)
def intB (d : D) : Bool := match d with | .int _ => true | _ => false
def resB (s : Str) : Bool := (["input", "kind", "mark", "open", "self"] : List Str).any fun z => z == s
def nameB (d : D) : Bool := match d with
  | .str s => (decide ((1 : Int) ≤ s.length) && decide ((s.length : Int) ≤ 8)) && (!resB s && s.cps.toList.all fun c => inStr ⟨#[c]⟩ LET)
  | _ => false
def scalB (d : D) : Bool := match d with
  | .str s => decide ((s.length : Int) ≤ 60) && !inStr NLS s
  | .non => true
  | .int i => decide ((-1000000000000000000 : Int) ≤ i) && decide (i ≤ 1000000000000000000)
  | _ => false
def valB (d : D) : Bool := match d with
  | .tup ds => decide ((ds.length : Int) ≤ 20) && ds.all scalB
  | d => scalB d
def trueB (d : D) : Bool := match d with
  | .non => false
  | .int i => i != 0
  | .str s => s != ("" : Str)
  | .tup ds => !ds.isEmpty
  | _ => true
theorem name_str (s : Str) : nameB (.str s) = ((decide ((1 : Int) ≤ s.length) && decide ((s.length : Int) ≤ 8)) && (!resB s && s.cps.toList.all fun c => inStr ⟨#[c]⟩ LET)) := rfl
theorem scal_str (s : Str) : scalB (.str s) = (decide ((s.length : Int) ≤ 60) && !inStr NLS s) := rfl
theorem scal_int (i : Int) : scalB (.int i) = (decide ((-1000000000000000000 : Int) ≤ i) && decide (i ≤ 1000000000000000000)) := rfl
theorem val_tup (ds : List D) : valB (.tup ds) = (decide ((ds.length : Int) ≤ 20) && ds.all scalB) := rfl
theorem wB1 {d : D} (h : wB d = true) : w1B d = true := by
  unfold wB at h
  rw [Bool.and_eq_true] at h
  exact h.1
theorem w1_str2 {s : Str} (h : w1B (.str s) = true) : s.length ≤ 1000 ∧ PyData.strOk s = true := by
  unfold w1B at h
  rw [Bool.and_eq_true, Bool.and_eq_true] at h
  exact ⟨of_decide_eq_true h.2.1, h.2.2⟩
theorem w1_str {s : Str} (h : w1B (.str s) = true) : s.length ≤ 1000 := (w1_str2 h).1
theorem wB_tup2 {ds : List D} (h : wB (.tup ds) = true) : ds.length ≤ 1000 ∧ ∀ x ∈ ds, w1B x = true ∧ pyB x = true := by
  unfold wB at h
  rw [Bool.and_eq_true, Bool.and_eq_true] at h
  refine ⟨of_decide_eq_true h.2.1, fun x hx => ?_⟩
  have := List.all_eq_true.mp h.2.2 x hx
  unfold w2B at this
  rwa [Bool.and_eq_true] at this
theorem wB_tup {ds : List D} (h : wB (.tup ds) = true) : ds.length ≤ 1000 ∧ ∀ x ∈ ds, w1B x = true := ⟨(wB_tup2 h).1, fun x hx => ((wB_tup2 h).2 x hx).1⟩
theorem wB_mk {ds : List D} (h1 : ds.length ≤ 1000) (h2 : ∀ x ∈ ds, wB x = true ∧ pyB x = true) : wB (.tup ds) = true := by
  have e : ds.all w2B = true := List.all_eq_true.mpr fun x hx => by
    obtain ⟨a, b⟩ := h2 x hx
    unfold w2B
    rw [wB1 a, b]; rfl
  show (true && true && (decide (ds.length ≤ 1000) && ds.all w2B)) = true
  rw [e, decide_eq_true h1]
  rfl
theorem chars_eq (s : Str) : chars s = s.cps.toList.map fun c => .str ⟨#[c]⟩ := rfl
theorem chars_len (s : Str) : (chars s).length = s.length := by unfold chars; rw [List.length_map, Array.length_toList]; rfl
/-! ### the text by places, the mirrors of its defs (printed) -/
def top (i : Nat) : Stmt := PySem.Challenge.pw_viewturns_k01_names_and_values.main.body.getD i (.Pass ⟨0, 0, 0, 0⟩)
def gl0 : List (Str × GV) := [("abs", .bi "abs" absM), ("all", .bi "all" allM), ("bool", .ty "bool" noM), ("int", .ty "int" noM), ("isinstance", .sp), ("len", .bi "len" lenM), ("list", .ty "list" listM), ("range", .sp), ("repr", .bi "repr" reprM), ("str", .ty "str" noM), ("tuple", .ty "tuple" tupleM), ("LETTERS", .cv (.str "abcdefghijklmnopqrstuvwxyz")), ("LONGEST_NAME", .cv (.int 8)), ("LONGEST_STRING", .cv (.int 60)), ("MOST_SCALARS", .cv (.int 20)), ("GREATEST", .cv (.int 1000000000000000000)), ("RESERVED", .cv (.tup [.str "input", .str "kind", .str "mark", .str "open", .str "self"]))]
abbrev Free (mg : Str → Option Value) : Prop := mg "abs" = none ∧ mg "all" = none ∧ mg "bool" = none ∧ mg "int" = none ∧ mg "isinstance" = none ∧ mg "len" = none ∧ mg "list" = none ∧ mg "range" = none ∧ mg "repr" = none ∧ mg "str" = none ∧ mg "tuple" = none

/-! is_name -/
abbrev s_is_name : Stmt := top 7
abbrev N_is_name : List Str := ["value", "letter"]
theorem sc_is_name : FnScope N_is_name ["value"] (defScope s_is_name) := ⟨rfl, rfl, rfl, by decide +kernel, rfl, by decide +kernel, by decide +kernel⟩
def c_is_name : CS := sSeq (sIf (tOr' (tNo (tTru (frz (cIsi (bVar 0) [.str])))) (tOr' (tNo (tCh .LtE .LtE (frz (cC (.int 1))) (frz (cB lenM (cCons (bVar 0) (cNil)))) (frz (cC (.int 8))))) (tCm .In (bVar 0) (frz (cC (.tup [.str "input", .str "kind", .str "mark", .str "open", .str "self"])))))) (sRet (frz (cC (.bl false)))) (sNil)) (sRet (frz (cB allM (cCons (frz (cLc [1] (iSeq (frz (cVar 0))) (gNm 1) (tYesD) (frz (vT (tCm .In (bVar 1) (frz (cC (.str "abcdefghijklmnopqrstuvwxyz")))))))) (cNil)))))
theorem e_is_name : ssOf (recN rules2 40) (mkSg N_is_name (defScope s_is_name) gl0 []) (defBody s_is_name) = some c_is_name := by kernel_rfl
def m_is_name : List D → M D
  | [d] => fun Q _ => w1B d = true ∧ Q (.bl (nameB d))
  | _ => fail

def gl_is_name : List (Str × GV) := ("is_name", .fn 1 m_is_name []) :: gl0

/-! is_integer -/
abbrev s_is_integer : Stmt := top 8
abbrev N_is_integer : List Str := ["value"]
theorem sc_is_integer : FnScope N_is_integer ["value"] (defScope s_is_integer) := ⟨rfl, rfl, rfl, by decide +kernel, rfl, by decide +kernel, by decide +kernel⟩
def c_is_integer : CS := sRet (frz (cAnd (cIsi (bVar 0) [.int]) (cNot (frz (cIsi (bVar 0) [.bl])))))
theorem e_is_integer : ssOf (recN rules2 40) (mkSg N_is_integer (defScope s_is_integer) gl_is_name []) (defBody s_is_integer) = some c_is_integer := by kernel_rfl
def m_is_integer : List D → M D
  | [d] => fun Q _ => isSome' d = true ∧ Q (.bl (intB d))
  | _ => fail

def gl_is_integer : List (Str × GV) := ("is_integer", .fn 1 m_is_integer []) :: gl_is_name

/-! is_scalar -/
abbrev s_is_scalar : Stmt := top 9
abbrev N_is_scalar : List Str := ["value"]
theorem sc_is_scalar : FnScope N_is_scalar ["value"] (defScope s_is_scalar) := ⟨rfl, rfl, rfl, by decide +kernel, rfl, by decide +kernel, by decide +kernel⟩
def c_is_scalar : CS := sSeq (sIf (tTru (frz (cIsi (bVar 0) [.str]))) (sRet (frz (cAnd (vT (tCm .LtE (frz (cB lenM (cCons (bVar 0) (cNil)))) (frz (cC (.int 60))))) (vT (tCm .NotIn (frz (cC (.str "\n"))) (bVar 0)))))) (sNil)) (sRet (frz (cOr (vT (tCm .Is (bVar 0) (frz (cC .non)))) (cAnd (cCall 1 m_is_integer (cCons (frz (cVar 0)) (cNil))) (vT (tCh .LtE .LtE (frz (cNeg (frz (cC (.int 1000000000000000000))))) (bVar 0) (frz (cC (.int 1000000000000000000)))))))))
theorem e_is_scalar : ssOf (recN rules2 40) (mkSg N_is_scalar (defScope s_is_scalar) gl_is_integer []) (defBody s_is_scalar) = some c_is_scalar := by kernel_rfl
def m_is_scalar : List D → M D
  | [d] => fun Q _ => w1B d = true ∧ Q (.bl (scalB d))
  | _ => fail

def gl_is_scalar : List (Str × GV) := ("is_scalar", .fn 1 m_is_scalar [(0, ["value"], [0])]) :: gl_is_integer

/-! is_value -/
abbrev s_is_value : Stmt := top 10
abbrev N_is_value : List Str := ["value", "one"]
theorem sc_is_value : FnScope N_is_value ["value"] (defScope s_is_value) := ⟨rfl, rfl, rfl, by decide +kernel, rfl, by decide +kernel, by decide +kernel⟩
def c_is_value : CS := sSeq (sIf (tTru (frz (cIsi (bVar 0) [.tup]))) (sRet (frz (cAnd (vT (tCm .LtE (frz (cB lenM (cCons (bVar 0) (cNil)))) (frz (cC (.int 20))))) (cB allM (cCons (frz (cLc [1] (iSeq (frz (cVar 0))) (gNm 1) (tYesD) (frz (cCall 1 m_is_scalar (cCons (frz (cVar 1)) (cNil)))))) (cNil)))))) (sNil)) (sRet (frz (cCall 1 m_is_scalar (cCons (frz (cVar 0)) (cNil)))))
theorem e_is_value : ssOf (recN rules2 40) (mkSg N_is_value (defScope s_is_value) gl_is_scalar []) (defBody s_is_value) = some c_is_value := by kernel_rfl
def m_is_value : List D → M D
  | [d] => fun Q _ => wB d = true ∧ Q (.bl (valB d))
  | _ => fail

def gl_is_value : List (Str × GV) := ("is_value", .fn 1 m_is_value []) :: gl_is_scalar

/-! is_true -/
abbrev s_is_true : Stmt := top 11
abbrev N_is_true : List Str := ["value"]
theorem sc_is_true : FnScope N_is_true ["value"] (defScope s_is_true) := ⟨rfl, rfl, rfl, by decide +kernel, rfl, by decide +kernel, by decide +kernel⟩
def c_is_true : CS := sRet (frz (cAnd (vT (tCm .IsNot (bVar 0) (frz (cC .non)))) (cAnd (vT (tCm .NotEq (bVar 0) (frz (cC (.int 0))))) (cAnd (vT (tCm .NotEq (bVar 0) (frz (cC (.str ""))))) (vT (tCm .NotEq (bVar 0) (frz (cTup (cNil)))))))))
theorem e_is_true : ssOf (recN rules2 40) (mkSg N_is_true (defScope s_is_true) gl_is_value []) (defBody s_is_true) = some c_is_true := by kernel_rfl
def m_is_true : List D → M D
  | [d] => fun Q _ => wB d = true ∧ valB d = true ∧ Q (.bl (trueB d))
  | _ => fail

def gl_is_true : List (Str × GV) := ("is_true", .fn 1 m_is_true []) :: gl_is_value

/-! _law_state -/
abbrev s__law_state : Stmt := top 13
abbrev N__law_state : List Str := ["_law_script", "_law_cell"]
theorem sc__law_state : FnScope N__law_state ["_law_script"] (defScope s__law_state) := ⟨rfl, rfl, rfl, by decide +kernel, rfl, by decide +kernel, by decide +kernel⟩
def c__law_state : CS := sRet (frz (cLst (cCons (frz (cOr (cLc [1] (iSeq (frz (cSl (bVar 0) (oNo) (oIs (frz (cC (.int 63))))))) (gNm 1) (tYesD) (frz (cB absM (cCons (bVar 1) (cNil))))) (cLst (cCons (frz (cC (.int 7))) (cNil))))) (cCons (frz (cC (.int 0))) (cCons (frz (cC (.int 1))) (cNil))))))
theorem e__law_state : ssOf (recN rules2 40) (mkSg N__law_state (defScope s__law_state) gl_is_true []) (defBody s__law_state) = some c__law_state := by kernel_rfl
def gl__law_state : List (Str × GV) := ("_law_state", .fn 1 begunM []) :: gl_is_true

/-! _law_draw -/
abbrev s__law_draw : Stmt := top 14
abbrev N__law_draw : List Str := ["_law_draw_here", "_law_below", "_law_cells", "_law_at", "_law_cell", "?"]
theorem sc__law_draw : FnScope N__law_draw ["_law_draw_here", "_law_below"] (defScope s__law_draw) := ⟨rfl, rfl, rfl, by decide +kernel, rfl, by decide +kernel, by decide +kernel⟩
def c__law_draw1 : CS := sSet 2 true (cIx (bVar 0) (frz (cC (.int 0))))
def c__law_draw2 : CS := sSeq (sSet 3 false (cBin .Mod (frz (cIx (bVar 0) (frz (cC (.int 1))))) (frz (cB lenM (cCons (bVar 2) (cNil)))))) (sSeq (sSet 4 false (cIx (bVar 2) (bVar 3))) (sSeq (sIf (tCm .GtE (bVar 4) (frz (cBin .Pow (frz (cC (.int 10))) (frz (cC (.int 18)))))) (sSeq (sPut 2 (frz (cBin .FloorDiv (bVar 4) (bVar 1))) (frz (cVar 3))) (sRet (frz (cBin .Mod (bVar 4) (bVar 1))))) (sNil)) (sSeq (sPut 0 (frz (cBin .Add (frz (cIx (bVar 0) (frz (cC (.int 1))))) (frz (cC (.int 1))))) (frz (cC (.int 1)))) (sSeq (sPut 0 (frz (cBin .Mod (frz (cBin .Add (frz (cBin .Add (frz (cBin .Add (frz (cBin .Mult (frz (cIx (bVar 0) (frz (cC (.int 2))))) (frz (cC (.int 48271))))) (bVar 4))) (frz (cBin .Mult (frz (cC (.int 7919))) (frz (cIx (bVar 0) (frz (cC (.int 1))))))))) (frz (cC (.int 12345))))) (frz (cC (.int 2147483647))))) (frz (cC (.int 2)))) (sRet (frz (cBin .Mod (frz (cBin .FloorDiv (frz (cBin .Mod (frz (cBin .Mult (frz (cIx (bVar 0) (frz (cC (.int 2))))) (frz (cIx (bVar 0) (frz (cC (.int 2))))))) (frz (cC (.int 2147483629))))) (frz (cC (.int 16))))) (bVar 1))))))))
theorem e__law_draw1 : ssOf (recN rules2 40) (mkSg N__law_draw (defScope s__law_draw) gl__law_state [0, 2]) ((defBody s__law_draw).take 1) = some c__law_draw1 := by kernel_rfl
theorem e__law_draw2 : ssOf (recN rules2 40) (mkSg N__law_draw (defScope s__law_draw) gl__law_state [0, 2]) ((defBody s__law_draw).drop 1) = some c__law_draw2 := by kernel_rfl
def gl__law_draw : List (Str × GV) := ("_law_draw", .fn 2 drawM []) :: gl__law_state

/-! _law_pick -/
abbrev s__law_pick : Stmt := top 15
abbrev N__law_pick : List Str := ["_law_draw_here", "_law_some"]
theorem sc__law_pick : FnScope N__law_pick ["_law_draw_here", "_law_some"] (defScope s__law_pick) := ⟨rfl, rfl, rfl, by decide +kernel, rfl, by decide +kernel, by decide +kernel⟩
def c__law_pick : CS := sRet (frz (cIx (bVar 1) (frz (cCall 2 drawM (cCons (frz (cVar 0)) (cCons (frz (cB lenM (cCons (bVar 1) (cNil)))) (cNil)))))))
theorem e__law_pick : ssOf (recN rules2 40) (mkSg N__law_pick (defScope s__law_pick) gl__law_draw []) (defBody s__law_pick) = some c__law_pick := by kernel_rfl
def m__law_pick : List D → M D
  | [.gen, .lst ds] => fun Q _ => (ds ≠ [] ∧ ds.length ≤ 1000) ∧ ∀ d ∈ ds, Q d
  | [.gen, .str z] => fun Q _ => (0 < z.length ∧ z.length ≤ 1000) ∧ ∀ c ∈ z.cps.toList, Q (.str ⟨#[c]⟩)
  | _ => fail

def gl__law_pick : List (Str × GV) := ("_law_pick", .fn 2 m__law_pick []) :: gl__law_draw

/-! _law_mixed -/
abbrev s__law_mixed : Stmt := top 16
abbrev N__law_mixed : List Str := ["_law_draw_here", "_law_some", "_law_left", "_law_rows"]
theorem sc__law_mixed : FnScope N__law_mixed ["_law_draw_here", "_law_some"] (defScope s__law_mixed) := ⟨rfl, rfl, rfl, by decide +kernel, rfl, by decide +kernel, by decide +kernel⟩
def c__law_mixed : CS := sSeq (sPar 2 3 true true (cB listM (cCons (bVar 1) (cNil))) (cLst (cNil))) (sSeq (sWhile (tCm .NotEq (bVar 2) (frz (cLst (cNil)))) (sApp 3 (uPopAt 2 (frz (cCall 2 drawM (cCons (frz (cVar 0)) (cCons (frz (cB lenM (cCons (bVar 2) (cNil)))) (cNil)))))))) (sFrz 3 (sRet (frz (cVar 3)))))
theorem e__law_mixed : ssOf (recN rules2 40) (mkSg N__law_mixed (defScope s__law_mixed) gl__law_pick [3, 2]) (defBody s__law_mixed) = some c__law_mixed := by kernel_rfl
abbrev m__law_mixed : List D → M D := mixedM

def gl__law_mixed : List (Str × GV) := ("_law_mixed", .fn 2 m__law_mixed []) :: gl__law_pick

/-! _law_thing -/
abbrev s__law_thing : Stmt := top 17
abbrev N__law_thing : List Str := ["_law_draw_here", "_law_some"]
theorem sc__law_thing : FnScope N__law_thing ["_law_draw_here"] (defScope s__law_thing) := ⟨rfl, rfl, rfl, by decide +kernel, rfl, by decide +kernel, by decide +kernel⟩
def c__law_thing : CS := sSeq (sSet 1 false (cLst (cCons (frz (cC .non)) (cCons (frz (cC (.int 0))) (cCons (frz (cC (.int 1))) (cCons (frz (cNeg (frz (cC (.int 1))))) (cCons (frz (cC (.bl true))) (cCons (frz (cC (.bl false))) (cCons (frz (cC (.str ""))) (cCons (frz (cC (.str "a"))) (cCons (frz (cC (.str "abcdefgh"))) (cCons (frz (cC (.str "abcdefghi"))) (cCons (frz (cC (.str "kind"))) (cCons (frz (cC (.str "mark"))) (cCons (frz (cC (.str "self"))) (cCons (frz (cC (.str "open"))) (cCons (frz (cC (.str "input"))) (cNil)))))))))))))))))) (sSeq (sSet 1 false (cBin .Add (bVar 1) (frz (cLst (cCons (frz (cC (.str "A"))) (cCons (frz (cC (.str "a1"))) (cCons (frz (cC (.str "a b"))) (cCons (frz (cC (.str "x\ny"))) (cCons (frz (cBin .Mult (frz (cC (.str "z"))) (frz (cC (.int 60))))) (cCons (frz (cBin .Mult (frz (cC (.str "z"))) (frz (cC (.int 61))))) (cCons (frz (cBin .Pow (frz (cC (.int 10))) (frz (cC (.int 18))))) (cCons (frz (cBin .Add (frz (cBin .Pow (frz (cC (.int 10))) (frz (cC (.int 18))))) (frz (cC (.int 1))))) (cCons (frz (cBin .Sub (frz (cC (.int 0))) (frz (cBin .Pow (frz (cC (.int 10))) (frz (cC (.int 18))))))) (cNil)))))))))))))) (sSeq (sSet 1 false (cBin .Add (bVar 1) (frz (cLst (cCons (frz (cBin .Sub (frz (cBin .Sub (frz (cC (.int 0))) (frz (cBin .Pow (frz (cC (.int 10))) (frz (cC (.int 18))))))) (frz (cC (.int 1))))) (cCons (frz (cTup (cNil))) (cCons (frz (cTup (cCons (frz (cC (.int 1))) (cCons (frz (cC (.str "a"))) (cNil))))) (cCons (frz (cBin .Mult (frz (cTup (cCons (frz (cC .non)) (cNil)))) (frz (cC (.int 20))))) (cCons (frz (cBin .Mult (frz (cTup (cCons (frz (cC (.int 0))) (cNil)))) (frz (cC (.int 21))))) (cCons (frz (cTup (cCons (frz (cTup (cCons (frz (cC (.int 1))) (cNil)))) (cNil)))) (cCons (frz (cLst (cNil))) (cCons (frz (cLst (cCons (frz (cC (.int 1))) (cNil)))) (cCons (frz (cDct [])) (cCons (frz (cDct [(frz (cC (.str "a")), frz (cC (.int 1)))])) (cNil))))))))))))))) (sSeq (sSet 1 false (cBin .Add (bVar 1) (frz (cLst (cCons (frz (cTup (cCons (frz (cC (.bl true))) (cNil)))) (cCons (frz (cTup (cCons (frz (cC (.str "x\ny"))) (cNil)))) (cCons (frz (cTup (cCons (frz (cBin .Pow (frz (cC (.int 10))) (frz (cC (.int 19))))) (cNil)))) (cNil)))))))) (sRet (frz (cCall 2 m__law_pick (cCons (frz (cVar 0)) (cCons (frz (cVar 1)) (cNil)))))))))
theorem e__law_thing : ssOf (recN rules2 40) (mkSg N__law_thing (defScope s__law_thing) gl__law_mixed []) (defBody s__law_thing) = some c__law_thing := by kernel_rfl
def m__law_thing : List D → M D
  | [.gen] => fun Q _ => ∀ d, wB d = true → pyB d = true → Q d
  | _ => fail

def gl__law_thing : List (Str × GV) := ("_law_thing", .fn 1 m__law_thing []) :: gl__law_mixed

/-! _law_is_integer -/
abbrev s__law_is_integer : Stmt := top 18
abbrev N__law_is_integer : List Str := ["_law_thing_here"]
theorem sc__law_is_integer : FnScope N__law_is_integer ["_law_thing_here"] (defScope s__law_is_integer) := ⟨rfl, rfl, rfl, by decide +kernel, rfl, by decide +kernel, by decide +kernel⟩
def c__law_is_integer : CS := sRet (frz (cAnd (cIsi (bVar 0) [.int]) (cNot (frz (cIsi (bVar 0) [.bl])))))
theorem e__law_is_integer : ssOf (recN rules2 40) (mkSg N__law_is_integer (defScope s__law_is_integer) gl__law_thing []) (defBody s__law_is_integer) = some c__law_is_integer := by kernel_rfl
abbrev m__law_is_integer : List D → M D := m_is_integer

def gl__law_is_integer : List (Str × GV) := ("_law_is_integer", .fn 1 m__law_is_integer []) :: gl__law_thing

/-! _law_is_name -/
abbrev s__law_is_name : Stmt := top 19
abbrev N__law_is_name : List Str := ["_law_thing_here", "_law_sign"]
theorem sc__law_is_name : FnScope N__law_is_name ["_law_thing_here"] (defScope s__law_is_name) := ⟨rfl, rfl, rfl, by decide +kernel, rfl, by decide +kernel, by decide +kernel⟩
def c__law_is_name : CS := sSeq (sIf (tOr' (tNo (tTru (frz (cIsi (bVar 0) [.str])))) (tOr' (tCm .In (bVar 0) (frz (cTup (cCons (frz (cC (.str "input"))) (cCons (frz (cC (.str "kind"))) (cCons (frz (cC (.str "mark"))) (cCons (frz (cC (.str "open"))) (cCons (frz (cC (.str "self"))) (cNil))))))))) (tNo (tCh .Lt .Lt (frz (cC (.int 0))) (frz (cB lenM (cCons (bVar 0) (cNil)))) (frz (cC (.int 9))))))) (sRet (frz (cC (.bl false)))) (sNil)) (sRet (frz (vT (tCm .Eq (frz (cLc [1] (iSeq (frz (cVar 0))) (gNm 1) (tCm .NotIn (bVar 1) (frz (cC (.str "abcdefghijklmnopqrstuvwxyz")))) (frz (cVar 1)))) (frz (cLst (cNil)))))))
theorem e__law_is_name : ssOf (recN rules2 40) (mkSg N__law_is_name (defScope s__law_is_name) gl__law_is_integer []) (defBody s__law_is_name) = some c__law_is_name := by kernel_rfl
abbrev m__law_is_name : List D → M D := m_is_name

def gl__law_is_name : List (Str × GV) := ("_law_is_name", .fn 1 m__law_is_name []) :: gl__law_is_integer

/-! _law_is_scalar -/
abbrev s__law_is_scalar : Stmt := top 20
abbrev N__law_is_scalar : List Str := ["_law_thing_here"]
theorem sc__law_is_scalar : FnScope N__law_is_scalar ["_law_thing_here"] (defScope s__law_is_scalar) := ⟨rfl, rfl, rfl, by decide +kernel, rfl, by decide +kernel, by decide +kernel⟩
def c__law_is_scalar : CS := sSeq (sIf (tTru (frz (cIsi (bVar 0) [.str]))) (sRet (frz (cAnd (vT (tCm .Lt (frz (cB lenM (cCons (bVar 0) (cNil)))) (frz (cC (.int 61))))) (vT (tCm .NotIn (frz (cC (.str "\n"))) (bVar 0)))))) (sNil)) (sRet (frz (cOr (vT (tCm .Is (bVar 0) (frz (cC .non)))) (cAnd (cCall 1 m__law_is_integer (cCons (frz (cVar 0)) (cNil))) (vT (tCm .LtE (frz (cB absM (cCons (bVar 0) (cNil)))) (frz (cBin .Pow (frz (cC (.int 10))) (frz (cC (.int 18)))))))))))
theorem e__law_is_scalar : ssOf (recN rules2 40) (mkSg N__law_is_scalar (defScope s__law_is_scalar) gl__law_is_name []) (defBody s__law_is_scalar) = some c__law_is_scalar := by kernel_rfl
abbrev m__law_is_scalar : List D → M D := m_is_scalar

def gl__law_is_scalar : List (Str × GV) := ("_law_is_scalar", .fn 1 m__law_is_scalar []) :: gl__law_is_name

/-! _law_word -/
abbrev s__law_word : Stmt := top 21
abbrev N__law_word : List Str := ["_law_draw_here", "_law_letters", "_law_turn"]
theorem sc__law_word : FnScope N__law_word ["_law_draw_here"] (defScope s__law_word) := ⟨rfl, rfl, rfl, by decide +kernel, rfl, by decide +kernel, by decide +kernel⟩
def c__law_word : CS := sSeq (sSet 1 false (cC (.str "abcdefghijklmnopqrstuvwxyz"))) (sRet (frz (cJoin "" (frz (cLc [2] (iRng (cCons (frz (cCall 2 drawM (cCons (frz (cVar 0)) (cCons (frz (cC (.int 11))) (cNil))))) (cNil))) (gNm 2) (tYesD) (frz (cCall 2 m__law_pick (cCons (frz (cVar 0)) (cCons (frz (cVar 1)) (cNil))))))))))
theorem e__law_word : ssOf (recN rules2 40) (mkSg N__law_word (defScope s__law_word) gl__law_is_scalar []) (defBody s__law_word) = some c__law_word := by kernel_rfl
def m__law_word : List D → M D
  | [.gen] => fun Q _ => ∀ s : Str, s.length ≤ 20 → PyData.strOk s = true → Q (.str s)
  | _ => fail

def gl__law_word : List (Str × GV) := ("_law_word", .fn 1 m__law_word []) :: gl__law_is_scalar

/-! _law_right -/
abbrev s__law_right : Stmt := top 22
abbrev N__law_right : List Str := ["_law_thing_here", "_law_is_one", "_law_one", "_law_found", "_law_due"]
theorem sc__law_right : FnScope N__law_right ["_law_thing_here"] (defScope s__law_right) := ⟨rfl, rfl, rfl, by decide +kernel, rfl, by decide +kernel, by decide +kernel⟩
def c__law_right : CS := sSeq (sSet 1 false (cCall 1 m__law_is_scalar (cCons (frz (cVar 0)) (cNil)))) (sSeq (sIf (tTru (frz (cIsi (bVar 0) [.tup]))) (sSet 1 false (cAnd (vT (tCm .Lt (frz (cB lenM (cCons (bVar 0) (cNil)))) (frz (cC (.int 21))))) (vT (tCm .Eq (frz (cLc [2] (iSeq (frz (cVar 0))) (gNm 2) (tNo (tTru (frz (cCall 1 m__law_is_scalar (cCons (frz (cVar 2)) (cNil)))))) (frz (cVar 2)))) (frz (cLst (cNil))))))) (sNil)) (sSeq (sSet 3 false (cLst (cCons (frz (cCall 1 m_is_name (cCons (frz (cVar 0)) (cNil)))) (cCons (frz (cCallK 1 [0] m_is_scalar (cNil) (cCons (frz (cVar 0)) (cNil)))) (cCons (frz (cCall 1 m_is_value (cCons (frz (cVar 0)) (cNil)))) (cNil)))))) (sSeq (sIf (tCm .NotEq (frz (cB reprM (cCons (bVar 3) (cNil)))) (frz (cB reprM (cCons (frz (cLst (cCons (frz (cCall 1 m__law_is_name (cCons (frz (cVar 0)) (cNil)))) (cCons (frz (cCall 1 m__law_is_scalar (cCons (frz (cVar 0)) (cNil)))) (cCons (frz (cVar 1)) (cNil)))))) (cNil))))) (sRet (frz (cC (.bl false)))) (sNil)) (sSeq (sIf (tNo (tTru (bVar 1))) (sRet (frz (cC (.bl true)))) (sNil)) (sSeq (sSet 4 false (cNot (frz (cOr (vT (tCm .Is (bVar 0) (frz (cC .non)))) (vT (tCm .In (frz (cB reprM (cCons (bVar 0) (cNil)))) (frz (cTup (cCons (frz (cC (.str "0"))) (cCons (frz (cC (.str "''"))) (cCons (frz (cC (.str "()"))) (cNil)))))))))))) (sRet (frz (vT (tCm .Eq (frz (cB reprM (cCons (frz (cCall 1 m_is_true (cCons (frz (cVar 0)) (cNil)))) (cNil)))) (frz (cB reprM (cCons (bVar 4) (cNil)))))))))))))
theorem e__law_right : ssOf (recN rules2 40) (mkSg N__law_right (defScope s__law_right) gl__law_word []) (defBody s__law_right) = some c__law_right := by kernel_rfl
def restC : CS := sSeq (sSet 3 false (cLst (cCons (frz (cCall 1 m_is_name (cCons (frz (cVar 0)) (cNil)))) (cCons (frz (cCallK 1 [0] m_is_scalar (cNil) (cCons (frz (cVar 0)) (cNil)))) (cCons (frz (cCall 1 m_is_value (cCons (frz (cVar 0)) (cNil)))) (cNil)))))) (sSeq (sIf (tCm .NotEq (frz (cB reprM (cCons (bVar 3) (cNil)))) (frz (cB reprM (cCons (frz (cLst (cCons (frz (cCall 1 m__law_is_name (cCons (frz (cVar 0)) (cNil)))) (cCons (frz (cCall 1 m__law_is_scalar (cCons (frz (cVar 0)) (cNil)))) (cCons (frz (cVar 1)) (cNil)))))) (cNil))))) (sRet (frz (cC (.bl false)))) (sNil)) (sSeq (sIf (tNo (tTru (bVar 1))) (sRet (frz (cC (.bl true)))) (sNil)) (sSeq (sSet 4 false (cNot (frz (cOr (vT (tCm .Is (bVar 0) (frz (cC .non)))) (vT (tCm .In (frz (cB reprM (cCons (bVar 0) (cNil)))) (frz (cTup (cCons (frz (cC (.str "0"))) (cCons (frz (cC (.str "''"))) (cCons (frz (cC (.str "()"))) (cNil)))))))))))) (sRet (frz (vT (tCm .Eq (frz (cB reprM (cCons (frz (cCall 1 m_is_true (cCons (frz (cVar 0)) (cNil)))) (cNil)))) (frz (cB reprM (cCons (bVar 4) (cNil)))))))))))
def m__law_right : List D → M D
  | [d] => fun Q _ => wB d = true ∧ Q (.bl true)
  | _ => fail

def gl__law_right : List (Str × GV) := ("_law_right", .fn 1 m__law_right []) :: gl__law_word

/-! law -/
abbrev s_law : Stmt := top 23
abbrev N_law : List Str := ["_law_script", "_law_draw_here", "_law_turn", "_law_thing_here", "_law_whole", "_law_k", "_law_some", "_law_one"]
theorem sc_law : FnScope N_law ["_law_script"] (defScope s_law) := ⟨rfl, rfl, rfl, by decide +kernel, rfl, by decide +kernel, by decide +kernel⟩
def c_law : CS := sSeq (sSet 1 false (cCall 1 begunM (cCons (frz (cVar 0)) (cNil)))) (sSeq (sFor (iRng (cCons (frz (cC (.int 12))) (cNil))) (gNm 2) (sSeq (sSet 3 false (cCall 1 m__law_thing (cCons (frz (cVar 1)) (cNil)))) (sSeq (sSet 4 false (cB tupleM (cCons (frz (cLc [5] (iRng (cCons (frz (cCall 2 drawM (cCons (frz (cVar 1)) (cCons (frz (cC (.int 4))) (cNil))))) (cNil))) (gNm 5) (tYesD) (frz (cCall 1 m__law_thing (cCons (frz (cVar 1)) (cNil)))))) (cNil)))) (sSeq (sSet 6 false (cLst (cCons (frz (cVar 3)) (cCons (frz (cCall 1 m__law_word (cCons (frz (cVar 1)) (cNil)))) (cCons (frz (cBin .Add (frz (cCall 1 m__law_word (cCons (frz (cVar 1)) (cNil)))) (frz (cC (.str "\n"))))) (cCons (frz (cTup (cCons (frz (cVar 3)) (cNil)))) (cCons (frz (cVar 4)) (cNil)))))))) (sFor (iSeq (frz (cBin .Add (bVar 6) (frz (cLst (cCons (frz (cBin .Sub (frz (cBin .Pow (frz (cC (.int 10))) (frz (cC (.int 18))))) (frz (cCall 2 drawM (cCons (frz (cVar 1)) (cCons (frz (cC (.int 3))) (cNil))))))) (cCons (frz (cBin .Mult (frz (cTup (cCons (frz (cVar 3)) (cNil)))) (frz (cC (.int 20))))) (cCons (frz (cTup (cCons (frz (cC (.int 0))) (cCons (frz (cVar 3)) (cNil))))) (cNil))))))))) (gNm 7) (sIf (tNo (tTru (frz (cCall 1 m__law_right (cCons (frz (cVar 7)) (cNil)))))) (sRet (frz (cC (.bl false)))) (sNil))))))) (sRet (frz (cC (.bl true)))))
theorem e_law : ssOf (recN rules2 40) (mkSg N_law (defScope s_law) gl__law_right []) (defBody s_law) = some c_law := by kernel_rfl


end DL.K01

namespace DL.K01
open PySem L2
local macro_rules | `(tactic| walk_at "dl") => `(tactic| simp only [ret, fail, bnd, frz, cC, cVar, bVar, cBin, cNeg, cNot, cAnd, cOr, cIf, vT, tCm, tCh, tTru, tNo, tAn, tOr', cNil, cCons, cTup, cLst, cIx, oNo, oIs, cSl, cCall, callD, cCallK, cB, sNil, sSeq, sDrop, sSet, sAsg, sPar, sRet, sRetN, sIf, sBrk, sCnt, sNo, sFor, sFrz, sApp, sPut, sSetU, uOf, uPop, uPopAt, isOwL, sAdopt,
  gNm, gTp, gsCons, gsNil, tYesD, cLc, iSeq, iRng, iEn, cIsi, cLRg, cBest, cSrtSet, cRev, iZp, cCallF, cCallKF, callF, sRetO, sRetF, tLend, frzE, cDct, prM, cJoin, cel, rgsM, len_lst, len_tup, len_dct, len_str, abs_int, list_lst, list_tup, tuple_lst, tuple_tup, items_lst, items_tup, items_str, enum_lst, enum_tup,
  bin_addI, bin_subI, bin_mulI, bin_divI, bin_modI, bin_powI, bin_addS, bin_addL, bin_addT, bin_mulL, bin_mulT, bin_mulS, cmp_eq, cmp_ne, cmp_lt, cmp_le, cmp_gt, cmp_ge, cmp_is, cmp_isnt, cmp_inS, cmp_ninS, eq_int, eq_str, ix_lst, ix_tup, tru_bl, tru_lst, tru_tup, tru_int, tru_non, non_non, non_int, non_str, non_bl, non_lst, non_tup, at_zero, at_one, at_two,
  isi_non, isi_bl, isi_int, isi_str, isi_lst, isi_tup, isi_dct, sub_tab, List.any_cons, List.any_nil, Bool.or_false, Bool.or_true, Bool.true_or, Bool.false_or, Bool.not_true, Bool.not_false,
  List.getElem?_cons_zero, List.getElem?_cons_succ, List.set_cons_zero, List.set_cons_succ, Bool.false_and, Bool.true_and, Bool.and_false, Bool.and_true, Bool.false_eq_true, if_true, if_false, ite_true, ite_false, List.length_cons, List.length_nil, List.length_map, true_and, and_true, ne_eq, not_true_eq_false, not_false_eq_true, reduceCtorEq, Nat.reduceAdd, Nat.zero_add, Int.cast_ofNat_Int, beq_self_eq_true, decide_true, decide_false, *])
local macro_rules | `(tactic| walk_at "dl0") => `(tactic| simp only [ret, fail, bnd, frz, cC, cVar, bVar, cBin, cNeg, cNot, cAnd, cOr, cIf, vT, tCm, tCh, tTru, tNo, tAn, tOr', cNil, cCons, cTup, cLst, cIx, oNo, oIs, cSl, cCall, callD, cCallK, cB, sNil, sSeq, sDrop, sSet, sAsg, sPar, sRet, sRetN, sIf, sBrk, sCnt, sNo, sFor, sFrz, sApp, sPut, sSetU, uOf, uPop, uPopAt, isOwL, sAdopt,
  gNm, gTp, gsCons, gsNil, tYesD, cLc, iSeq, iRng, iEn, cIsi, cLRg, cBest, cSrtSet, cRev, iZp, cCallF, cCallKF, callF, sRetO, sRetF, tLend, frzE, cDct, prM, cJoin, cel, rgsM, len_lst, len_tup, len_dct, len_str, abs_int, list_lst, list_tup, tuple_lst, tuple_tup, items_lst, items_tup, items_str, enum_lst, enum_tup,
  bin_addI, bin_subI, bin_mulI, bin_divI, bin_modI, bin_powI, bin_addS, bin_addL, bin_addT, bin_mulL, bin_mulT, bin_mulS, cmp_eq, cmp_ne, cmp_lt, cmp_le, cmp_gt, cmp_ge, cmp_is, cmp_isnt, cmp_inS, cmp_ninS, eq_int, eq_str, ix_lst, ix_tup, tru_bl, tru_lst, tru_tup, tru_int, tru_non, non_non, non_int, non_str, non_bl, non_lst, non_tup, at_zero, at_one, at_two,
  isi_non, isi_bl, isi_int, isi_str, isi_lst, isi_tup, isi_dct, sub_tab, List.any_cons, List.any_nil, Bool.or_false, Bool.or_true, Bool.true_or, Bool.false_or, Bool.not_true, Bool.not_false,
  List.getElem?_cons_zero, List.getElem?_cons_succ, List.set_cons_zero, List.set_cons_succ, Bool.false_and, Bool.true_and, Bool.and_false, Bool.and_true, Bool.false_eq_true, if_true, if_false, ite_true, ite_false, List.length_cons, List.length_nil, List.length_map, true_and, and_true, ne_eq, not_true_eq_false, not_false_eq_true, reduceCtorEq, Nat.reduceAdd, Nat.zero_add, Int.cast_ofNat_Int, beq_self_eq_true, decide_true, decide_false])
theorem p_is_name : ∀ ds QD ED, m_is_name ds QD ED → c_is_name (startE N_is_name ds) { nx := fun _ => QD .non, rt := fun d _ => QD d } ED := by
  intro ds QD ED h
  unfold m_is_name at h
  split at h
  · rename_i d
    obtain ⟨w, h⟩ := h
    show c_is_name [.sh d, .no] _ ED
    cases d with
    | str s =>
      have hl := w1_str w
      have hsz : s.length ≤ sizeLine := Nat.le_trans hl (by decide)
      unfold c_is_name
      walk_at "dl0"
      refine ⟨hsz, ?_⟩
      have hin : ∀ Q : Bool → Prop, Q (resB s) → cmpM .In (.str s) (.tup [.str "input", .str "kind", .str "mark", .str "open", .str "self"]) Q ED := fun Q q => q
      have fin : (s.cps.toList.all fun c => inStr ⟨#[c]⟩ LET) = nameB (.str s) → (chars s).length ≤ sizeLine ∧ lcM (gNm 1) tYesD (frz (vT (tCm CmpOp.In (bVar 1) (frz (cC (D.str "abcdefghijklmnopqrstuvwxyz")))))) (wipeE [Cell.sh (D.str s), Cell.no] [1]) (chars s) (fun r => allM [D.lst r] (fun a => QD a.1) ED) ED := fun e => by
        refine ⟨by rw [chars_len]; exact hsz, ?_⟩
        refine lc_map (fun x => match x with | .str z => .bl (inStr z LET) | x => x) (fun x hx Q q => ?_) ?_
        · rw [chars_eq] at hx
          obtain ⟨c, _, rfl⟩ := List.mem_map.mp hx
          exact q
        · have e2 : (chars s).map (fun x => match x with | .str z => D.bl (inStr z LET) | x => x) = (s.cps.toList.map fun c => inStr ⟨#[c]⟩ LET).map D.bl := by
            rw [chars_eq, List.map_map, List.map_map]
            rfl
          rw [e2]
          show match blsD ((s.cps.toList.map fun c => inStr ⟨#[c]⟩ LET).map D.bl) with | some bs => QD (.bl (bs.all id)) | none => False
          rw [blsD_map]
          show QD (.bl ((s.cps.toList.map fun c => inStr ⟨#[c]⟩ LET).all id))
          rw [List.all_map]
          show QD (.bl (s.cps.toList.all fun c => inStr ⟨#[c]⟩ LET))
          rw [e]; exact h
      rw [name_str] at h fin
      by_cases h1 : (1 : Int) ≤ s.length
      · rw [decide_eq_true h1, Bool.true_and] at h fin
        rw [decide_eq_true h1]
        walk_at "dl0"
        by_cases h2 : (s.length : Int) ≤ 8
        · rw [decide_eq_true h2, Bool.true_and] at h fin
          rw [decide_eq_true h2]
          walk_at "dl0"
          refine hin _ ?_
          cases hr : resB s with
          | true =>
            rw [hr] at h
            exact h
          | false =>
            rw [hr] at fin
            exact fin (by rw [Bool.not_false, Bool.true_and])
        · rw [decide_eq_false h2, Bool.false_and] at h
          rw [decide_eq_false h2]
          exact h
      · rw [decide_eq_false h1, Bool.false_and, Bool.false_and] at h
        rw [decide_eq_false h1]
        exact h
    | obj _ _ => cases w
    | raw _ => cases w
    | gen => cases w
    | scr _ => cases w
    | _ => exact h
  · exact h.elim

end DL.K01

namespace DL.K01
open PySem L2
local macro_rules | `(tactic| walk_at "dl") => `(tactic| simp only [ret, fail, bnd, frz, cC, cVar, bVar, cBin, cNeg, cNot, cAnd, cOr, cIf, vT, tCm, tCh, tTru, tNo, tAn, tOr', cNil, cCons, cTup, cLst, cIx, oNo, oIs, cSl, cCall, callD, cCallK, cB, sNil, sSeq, sDrop, sSet, sAsg, sPar, sRet, sRetN, sIf, sBrk, sCnt, sNo, sFor, sFrz, sApp, sPut, sSetU, uOf, uPop, uPopAt, isOwL, sAdopt,
  gNm, gTp, gsCons, gsNil, tYesD, cLc, iSeq, iRng, iEn, cIsi, cLRg, cBest, cSrtSet, cRev, iZp, cCallF, cCallKF, callF, sRetO, sRetF, tLend, frzE, cDct, prM, cJoin, cel, rgsM, len_lst, len_tup, len_dct, len_str, abs_int, list_lst, list_tup, tuple_lst, tuple_tup, items_lst, items_tup, items_str, enum_lst, enum_tup,
  bin_addI, bin_subI, bin_mulI, bin_divI, bin_modI, bin_powI, bin_addS, bin_addL, bin_addT, bin_mulL, bin_mulT, bin_mulS, cmp_eq, cmp_ne, cmp_lt, cmp_le, cmp_gt, cmp_ge, cmp_is, cmp_isnt, cmp_inS, cmp_ninS, eq_int, eq_str, ix_lst, ix_tup, tru_bl, tru_lst, tru_tup, tru_int, tru_non, non_non, non_int, non_str, non_bl, non_lst, non_tup, at_zero, at_one, at_two,
  isi_non, isi_bl, isi_int, isi_str, isi_lst, isi_tup, isi_dct, sub_tab, List.any_cons, List.any_nil, Bool.or_false, Bool.or_true, Bool.true_or, Bool.false_or, Bool.not_true, Bool.not_false,
  List.getElem?_cons_zero, List.getElem?_cons_succ, List.set_cons_zero, List.set_cons_succ, Bool.false_and, Bool.true_and, Bool.and_false, Bool.and_true, Bool.false_eq_true, if_true, if_false, ite_true, ite_false, List.length_cons, List.length_nil, List.length_map, true_and, and_true, ne_eq, not_true_eq_false, not_false_eq_true, reduceCtorEq, Nat.reduceAdd, Nat.zero_add, Int.cast_ofNat_Int, beq_self_eq_true, decide_true, decide_false, *])
local macro_rules | `(tactic| walk_at "dl0") => `(tactic| simp only [ret, fail, bnd, frz, cC, cVar, bVar, cBin, cNeg, cNot, cAnd, cOr, cIf, vT, tCm, tCh, tTru, tNo, tAn, tOr', cNil, cCons, cTup, cLst, cIx, oNo, oIs, cSl, cCall, callD, cCallK, cB, sNil, sSeq, sDrop, sSet, sAsg, sPar, sRet, sRetN, sIf, sBrk, sCnt, sNo, sFor, sFrz, sApp, sPut, sSetU, uOf, uPop, uPopAt, isOwL, sAdopt,
  gNm, gTp, gsCons, gsNil, tYesD, cLc, iSeq, iRng, iEn, cIsi, cLRg, cBest, cSrtSet, cRev, iZp, cCallF, cCallKF, callF, sRetO, sRetF, tLend, frzE, cDct, prM, cJoin, cel, rgsM, len_lst, len_tup, len_dct, len_str, abs_int, list_lst, list_tup, tuple_lst, tuple_tup, items_lst, items_tup, items_str, enum_lst, enum_tup,
  bin_addI, bin_subI, bin_mulI, bin_divI, bin_modI, bin_powI, bin_addS, bin_addL, bin_addT, bin_mulL, bin_mulT, bin_mulS, cmp_eq, cmp_ne, cmp_lt, cmp_le, cmp_gt, cmp_ge, cmp_is, cmp_isnt, cmp_inS, cmp_ninS, eq_int, eq_str, ix_lst, ix_tup, tru_bl, tru_lst, tru_tup, tru_int, tru_non, non_non, non_int, non_str, non_bl, non_lst, non_tup, at_zero, at_one, at_two,
  isi_non, isi_bl, isi_int, isi_str, isi_lst, isi_tup, isi_dct, sub_tab, List.any_cons, List.any_nil, Bool.or_false, Bool.or_true, Bool.true_or, Bool.false_or, Bool.not_true, Bool.not_false,
  List.getElem?_cons_zero, List.getElem?_cons_succ, List.set_cons_zero, List.set_cons_succ, Bool.false_and, Bool.true_and, Bool.and_false, Bool.and_true, Bool.false_eq_true, if_true, if_false, ite_true, ite_false, List.length_cons, List.length_nil, List.length_map, true_and, and_true, ne_eq, not_true_eq_false, not_false_eq_true, reduceCtorEq, Nat.reduceAdd, Nat.zero_add, Int.cast_ofNat_Int, beq_self_eq_true, decide_true, decide_false])
theorem p_is_integer : ∀ ds QD ED, m_is_integer ds QD ED → c_is_integer (startE N_is_integer ds) { nx := fun _ => QD .non, rt := fun d _ => QD d } ED := by
  intro ds QD ED h
  unfold m_is_integer at h
  split at h
  · rename_i d
    obtain ⟨w, h⟩ := h
    show c_is_integer [.sh d] _ ED
    unfold c_is_integer
    cases d <;> first | exact h | cases w
  · exact h.elim

end DL.K01

namespace DL.K01
open PySem L2
local macro_rules | `(tactic| walk_at "dl") => `(tactic| simp only [ret, fail, bnd, frz, cC, cVar, bVar, cBin, cNeg, cNot, cAnd, cOr, cIf, vT, tCm, tCh, tTru, tNo, tAn, tOr', cNil, cCons, cTup, cLst, cIx, oNo, oIs, cSl, cCall, callD, cCallK, cB, sNil, sSeq, sDrop, sSet, sAsg, sPar, sRet, sRetN, sIf, sBrk, sCnt, sNo, sFor, sFrz, sApp, sPut, sSetU, uOf, uPop, uPopAt, isOwL, sAdopt,
  gNm, gTp, gsCons, gsNil, tYesD, cLc, iSeq, iRng, iEn, cIsi, cLRg, cBest, cSrtSet, cRev, iZp, cCallF, cCallKF, callF, sRetO, sRetF, tLend, frzE, cDct, prM, cJoin, cel, rgsM, len_lst, len_tup, len_dct, len_str, abs_int, list_lst, list_tup, tuple_lst, tuple_tup, items_lst, items_tup, items_str, enum_lst, enum_tup,
  bin_addI, bin_subI, bin_mulI, bin_divI, bin_modI, bin_powI, bin_addS, bin_addL, bin_addT, bin_mulL, bin_mulT, bin_mulS, cmp_eq, cmp_ne, cmp_lt, cmp_le, cmp_gt, cmp_ge, cmp_is, cmp_isnt, cmp_inS, cmp_ninS, eq_int, eq_str, ix_lst, ix_tup, tru_bl, tru_lst, tru_tup, tru_int, tru_non, non_non, non_int, non_str, non_bl, non_lst, non_tup, at_zero, at_one, at_two,
  isi_non, isi_bl, isi_int, isi_str, isi_lst, isi_tup, isi_dct, sub_tab, List.any_cons, List.any_nil, Bool.or_false, Bool.or_true, Bool.true_or, Bool.false_or, Bool.not_true, Bool.not_false,
  List.getElem?_cons_zero, List.getElem?_cons_succ, List.set_cons_zero, List.set_cons_succ, Bool.false_and, Bool.true_and, Bool.and_false, Bool.and_true, Bool.false_eq_true, if_true, if_false, ite_true, ite_false, List.length_cons, List.length_nil, List.length_map, true_and, and_true, ne_eq, not_true_eq_false, not_false_eq_true, reduceCtorEq, Nat.reduceAdd, Nat.zero_add, Int.cast_ofNat_Int, beq_self_eq_true, decide_true, decide_false, *])
local macro_rules | `(tactic| walk_at "dl0") => `(tactic| simp only [ret, fail, bnd, frz, cC, cVar, bVar, cBin, cNeg, cNot, cAnd, cOr, cIf, vT, tCm, tCh, tTru, tNo, tAn, tOr', cNil, cCons, cTup, cLst, cIx, oNo, oIs, cSl, cCall, callD, cCallK, cB, sNil, sSeq, sDrop, sSet, sAsg, sPar, sRet, sRetN, sIf, sBrk, sCnt, sNo, sFor, sFrz, sApp, sPut, sSetU, uOf, uPop, uPopAt, isOwL, sAdopt,
  gNm, gTp, gsCons, gsNil, tYesD, cLc, iSeq, iRng, iEn, cIsi, cLRg, cBest, cSrtSet, cRev, iZp, cCallF, cCallKF, callF, sRetO, sRetF, tLend, frzE, cDct, prM, cJoin, cel, rgsM, len_lst, len_tup, len_dct, len_str, abs_int, list_lst, list_tup, tuple_lst, tuple_tup, items_lst, items_tup, items_str, enum_lst, enum_tup,
  bin_addI, bin_subI, bin_mulI, bin_divI, bin_modI, bin_powI, bin_addS, bin_addL, bin_addT, bin_mulL, bin_mulT, bin_mulS, cmp_eq, cmp_ne, cmp_lt, cmp_le, cmp_gt, cmp_ge, cmp_is, cmp_isnt, cmp_inS, cmp_ninS, eq_int, eq_str, ix_lst, ix_tup, tru_bl, tru_lst, tru_tup, tru_int, tru_non, non_non, non_int, non_str, non_bl, non_lst, non_tup, at_zero, at_one, at_two,
  isi_non, isi_bl, isi_int, isi_str, isi_lst, isi_tup, isi_dct, sub_tab, List.any_cons, List.any_nil, Bool.or_false, Bool.or_true, Bool.true_or, Bool.false_or, Bool.not_true, Bool.not_false,
  List.getElem?_cons_zero, List.getElem?_cons_succ, List.set_cons_zero, List.set_cons_succ, Bool.false_and, Bool.true_and, Bool.and_false, Bool.and_true, Bool.false_eq_true, if_true, if_false, ite_true, ite_false, List.length_cons, List.length_nil, List.length_map, true_and, and_true, ne_eq, not_true_eq_false, not_false_eq_true, reduceCtorEq, Nat.reduceAdd, Nat.zero_add, Int.cast_ofNat_Int, beq_self_eq_true, decide_true, decide_false])
theorem p_is_scalar : ∀ ds QD ED, m_is_scalar ds QD ED → c_is_scalar (startE N_is_scalar ds) { nx := fun _ => QD .non, rt := fun d _ => QD d } ED := by
  intro ds QD ED h
  unfold m_is_scalar at h
  split at h
  · rename_i d
    obtain ⟨w, h⟩ := h
    show c_is_scalar [.sh d] _ ED
    cases d with
    | str s =>
      have hl := w1_str w
      have hsz : s.length ≤ sizeLine := Nat.le_trans hl (by decide)
      unfold c_is_scalar
      walk_at "dl0"
      refine ⟨hsz, ?_⟩
      rw [scal_str] at h
      by_cases h1 : (s.length : Int) ≤ 60
      · rw [decide_eq_true h1, Bool.true_and] at h
        rw [decide_eq_true h1]
        exact h
      · rw [decide_eq_false h1, Bool.false_and] at h
        rw [decide_eq_false h1]
        exact h
    | int i =>
      have hi : ∀ Q : D → Prop, Q (.bl true) → m_is_integer [.int i] Q ED := fun Q q => ⟨rfl, q⟩
      unfold c_is_scalar
      walk_at "dl0"
      refine hi _ ?_
      walk_at "dl0"
      rw [scal_int] at h
      by_cases h1 : (-1000000000000000000 : Int) ≤ i
      · rw [decide_eq_true h1, Bool.true_and] at h
        rw [decide_eq_true h1]
        exact h
      · rw [decide_eq_false h1, Bool.false_and] at h
        rw [decide_eq_false h1]
        exact h
    | non => exact h
    | bl b => exact ⟨rfl, rfl, h⟩
    | lst _ => exact ⟨rfl, rfl, h⟩
    | tup _ => exact ⟨rfl, rfl, h⟩
    | dct _ => exact ⟨rfl, rfl, h⟩
    | _ => cases w
  · exact h.elim

end DL.K01

namespace DL.K01
open PySem L2
local macro_rules | `(tactic| walk_at "dl") => `(tactic| simp only [ret, fail, bnd, frz, cC, cVar, bVar, cBin, cNeg, cNot, cAnd, cOr, cIf, vT, tCm, tCh, tTru, tNo, tAn, tOr', cNil, cCons, cTup, cLst, cIx, oNo, oIs, cSl, cCall, callD, cCallK, cB, sNil, sSeq, sDrop, sSet, sAsg, sPar, sRet, sRetN, sIf, sBrk, sCnt, sNo, sFor, sFrz, sApp, sPut, sSetU, uOf, uPop, uPopAt, isOwL, sAdopt,
  gNm, gTp, gsCons, gsNil, tYesD, cLc, iSeq, iRng, iEn, cIsi, cLRg, cBest, cSrtSet, cRev, iZp, cCallF, cCallKF, callF, sRetO, sRetF, tLend, frzE, cDct, prM, cJoin, cel, rgsM, len_lst, len_tup, len_dct, len_str, abs_int, list_lst, list_tup, tuple_lst, tuple_tup, items_lst, items_tup, items_str, enum_lst, enum_tup,
  bin_addI, bin_subI, bin_mulI, bin_divI, bin_modI, bin_powI, bin_addS, bin_addL, bin_addT, bin_mulL, bin_mulT, bin_mulS, cmp_eq, cmp_ne, cmp_lt, cmp_le, cmp_gt, cmp_ge, cmp_is, cmp_isnt, cmp_inS, cmp_ninS, eq_int, eq_str, ix_lst, ix_tup, tru_bl, tru_lst, tru_tup, tru_int, tru_non, non_non, non_int, non_str, non_bl, non_lst, non_tup, at_zero, at_one, at_two,
  isi_non, isi_bl, isi_int, isi_str, isi_lst, isi_tup, isi_dct, sub_tab, List.any_cons, List.any_nil, Bool.or_false, Bool.or_true, Bool.true_or, Bool.false_or, Bool.not_true, Bool.not_false,
  List.getElem?_cons_zero, List.getElem?_cons_succ, List.set_cons_zero, List.set_cons_succ, Bool.false_and, Bool.true_and, Bool.and_false, Bool.and_true, Bool.false_eq_true, if_true, if_false, ite_true, ite_false, List.length_cons, List.length_nil, List.length_map, true_and, and_true, ne_eq, not_true_eq_false, not_false_eq_true, reduceCtorEq, Nat.reduceAdd, Nat.zero_add, Int.cast_ofNat_Int, beq_self_eq_true, decide_true, decide_false, *])
local macro_rules | `(tactic| walk_at "dl0") => `(tactic| simp only [ret, fail, bnd, frz, cC, cVar, bVar, cBin, cNeg, cNot, cAnd, cOr, cIf, vT, tCm, tCh, tTru, tNo, tAn, tOr', cNil, cCons, cTup, cLst, cIx, oNo, oIs, cSl, cCall, callD, cCallK, cB, sNil, sSeq, sDrop, sSet, sAsg, sPar, sRet, sRetN, sIf, sBrk, sCnt, sNo, sFor, sFrz, sApp, sPut, sSetU, uOf, uPop, uPopAt, isOwL, sAdopt,
  gNm, gTp, gsCons, gsNil, tYesD, cLc, iSeq, iRng, iEn, cIsi, cLRg, cBest, cSrtSet, cRev, iZp, cCallF, cCallKF, callF, sRetO, sRetF, tLend, frzE, cDct, prM, cJoin, cel, rgsM, len_lst, len_tup, len_dct, len_str, abs_int, list_lst, list_tup, tuple_lst, tuple_tup, items_lst, items_tup, items_str, enum_lst, enum_tup,
  bin_addI, bin_subI, bin_mulI, bin_divI, bin_modI, bin_powI, bin_addS, bin_addL, bin_addT, bin_mulL, bin_mulT, bin_mulS, cmp_eq, cmp_ne, cmp_lt, cmp_le, cmp_gt, cmp_ge, cmp_is, cmp_isnt, cmp_inS, cmp_ninS, eq_int, eq_str, ix_lst, ix_tup, tru_bl, tru_lst, tru_tup, tru_int, tru_non, non_non, non_int, non_str, non_bl, non_lst, non_tup, at_zero, at_one, at_two,
  isi_non, isi_bl, isi_int, isi_str, isi_lst, isi_tup, isi_dct, sub_tab, List.any_cons, List.any_nil, Bool.or_false, Bool.or_true, Bool.true_or, Bool.false_or, Bool.not_true, Bool.not_false,
  List.getElem?_cons_zero, List.getElem?_cons_succ, List.set_cons_zero, List.set_cons_succ, Bool.false_and, Bool.true_and, Bool.and_false, Bool.and_true, Bool.false_eq_true, if_true, if_false, ite_true, ite_false, List.length_cons, List.length_nil, List.length_map, true_and, and_true, ne_eq, not_true_eq_false, not_false_eq_true, reduceCtorEq, Nat.reduceAdd, Nat.zero_add, Int.cast_ofNat_Int, beq_self_eq_true, decide_true, decide_false])
theorem p_is_value : ∀ ds QD ED, m_is_value ds QD ED → c_is_value (startE N_is_value ds) { nx := fun _ => QD .non, rt := fun d _ => QD d } ED := by
  intro ds QD ED h
  unfold m_is_value at h
  split at h
  · rename_i d
    obtain ⟨w, h⟩ := h
    show c_is_value [.sh d, .no] _ ED
    have w1 := wB1 w
    cases d with
    | tup ds =>
      obtain ⟨hl, hw⟩ := wB_tup w
      unfold c_is_value
      walk_at "dl0"
      rw [val_tup] at h
      by_cases h1 : (ds.length : Int) ≤ 20
      · rw [decide_eq_true h1, Bool.true_and] at h
        rw [decide_eq_true h1]
        refine ⟨by rw [sizeLine_eq]; omega, ?_⟩
        refine lc_map (fun x => .bl (scalB x)) (fun x hx Q q => ⟨rfl, hw x hx, q⟩) ?_
        have e2 : ds.map (fun x => D.bl (scalB x)) = (ds.map scalB).map D.bl := by rw [List.map_map]; rfl
        rw [e2]
        show match blsD ((ds.map scalB).map D.bl) with | some bs => QD (.bl (bs.all id)) | none => False
        rw [blsD_map]
        show QD (.bl ((ds.map scalB).all id))
        rw [List.all_map]
        exact h
      · rw [decide_eq_false h1, Bool.false_and] at h
        rw [decide_eq_false h1]
        exact h
    | obj _ _ => cases w1
    | raw _ => cases w1
    | gen => cases w1
    | scr _ => cases w1
    | _ => exact ⟨rfl, w1, h⟩
  · exact h.elim

end DL.K01

namespace DL.K01
open PySem L2
local macro_rules | `(tactic| walk_at "dl") => `(tactic| simp only [ret, fail, bnd, frz, cC, cVar, bVar, cBin, cNeg, cNot, cAnd, cOr, cIf, vT, tCm, tCh, tTru, tNo, tAn, tOr', cNil, cCons, cTup, cLst, cIx, oNo, oIs, cSl, cCall, callD, cCallK, cB, sNil, sSeq, sDrop, sSet, sAsg, sPar, sRet, sRetN, sIf, sBrk, sCnt, sNo, sFor, sFrz, sApp, sPut, sSetU, uOf, uPop, uPopAt, isOwL, sAdopt,
  gNm, gTp, gsCons, gsNil, tYesD, cLc, iSeq, iRng, iEn, cIsi, cLRg, cBest, cSrtSet, cRev, iZp, cCallF, cCallKF, callF, sRetO, sRetF, tLend, frzE, cDct, prM, cJoin, cel, rgsM, len_lst, len_tup, len_dct, len_str, abs_int, list_lst, list_tup, tuple_lst, tuple_tup, items_lst, items_tup, items_str, enum_lst, enum_tup,
  bin_addI, bin_subI, bin_mulI, bin_divI, bin_modI, bin_powI, bin_addS, bin_addL, bin_addT, bin_mulL, bin_mulT, bin_mulS, cmp_eq, cmp_ne, cmp_lt, cmp_le, cmp_gt, cmp_ge, cmp_is, cmp_isnt, cmp_inS, cmp_ninS, eq_int, eq_str, ix_lst, ix_tup, tru_bl, tru_lst, tru_tup, tru_int, tru_non, non_non, non_int, non_str, non_bl, non_lst, non_tup, at_zero, at_one, at_two,
  isi_non, isi_bl, isi_int, isi_str, isi_lst, isi_tup, isi_dct, sub_tab, List.any_cons, List.any_nil, Bool.or_false, Bool.or_true, Bool.true_or, Bool.false_or, Bool.not_true, Bool.not_false,
  List.getElem?_cons_zero, List.getElem?_cons_succ, List.set_cons_zero, List.set_cons_succ, Bool.false_and, Bool.true_and, Bool.and_false, Bool.and_true, Bool.false_eq_true, if_true, if_false, ite_true, ite_false, List.length_cons, List.length_nil, List.length_map, true_and, and_true, ne_eq, not_true_eq_false, not_false_eq_true, reduceCtorEq, Nat.reduceAdd, Nat.zero_add, Int.cast_ofNat_Int, beq_self_eq_true, decide_true, decide_false, *])
local macro_rules | `(tactic| walk_at "dl0") => `(tactic| simp only [ret, fail, bnd, frz, cC, cVar, bVar, cBin, cNeg, cNot, cAnd, cOr, cIf, vT, tCm, tCh, tTru, tNo, tAn, tOr', cNil, cCons, cTup, cLst, cIx, oNo, oIs, cSl, cCall, callD, cCallK, cB, sNil, sSeq, sDrop, sSet, sAsg, sPar, sRet, sRetN, sIf, sBrk, sCnt, sNo, sFor, sFrz, sApp, sPut, sSetU, uOf, uPop, uPopAt, isOwL, sAdopt,
  gNm, gTp, gsCons, gsNil, tYesD, cLc, iSeq, iRng, iEn, cIsi, cLRg, cBest, cSrtSet, cRev, iZp, cCallF, cCallKF, callF, sRetO, sRetF, tLend, frzE, cDct, prM, cJoin, cel, rgsM, len_lst, len_tup, len_dct, len_str, abs_int, list_lst, list_tup, tuple_lst, tuple_tup, items_lst, items_tup, items_str, enum_lst, enum_tup,
  bin_addI, bin_subI, bin_mulI, bin_divI, bin_modI, bin_powI, bin_addS, bin_addL, bin_addT, bin_mulL, bin_mulT, bin_mulS, cmp_eq, cmp_ne, cmp_lt, cmp_le, cmp_gt, cmp_ge, cmp_is, cmp_isnt, cmp_inS, cmp_ninS, eq_int, eq_str, ix_lst, ix_tup, tru_bl, tru_lst, tru_tup, tru_int, tru_non, non_non, non_int, non_str, non_bl, non_lst, non_tup, at_zero, at_one, at_two,
  isi_non, isi_bl, isi_int, isi_str, isi_lst, isi_tup, isi_dct, sub_tab, List.any_cons, List.any_nil, Bool.or_false, Bool.or_true, Bool.true_or, Bool.false_or, Bool.not_true, Bool.not_false,
  List.getElem?_cons_zero, List.getElem?_cons_succ, List.set_cons_zero, List.set_cons_succ, Bool.false_and, Bool.true_and, Bool.and_false, Bool.and_true, Bool.false_eq_true, if_true, if_false, ite_true, ite_false, List.length_cons, List.length_nil, List.length_map, true_and, and_true, ne_eq, not_true_eq_false, not_false_eq_true, reduceCtorEq, Nat.reduceAdd, Nat.zero_add, Int.cast_ofNat_Int, beq_self_eq_true, decide_true, decide_false])
theorem scal_py {d : D} (w : w1B d = true) (h : scalB d = true) : ∃ p, d.py = some p ∧ p.canLay0 = true ∧ p.depth ≤ 0 := by
  cases d with
  | str s => exact ⟨_, rfl, (w1_str2 w).2, Nat.zero_le _⟩
  | non => exact ⟨_, rfl, rfl, Nat.zero_le _⟩
  | int i => exact ⟨_, rfl, rfl, Nat.zero_le _⟩
  | _ => cases h
theorem scals_py {ds : List D} (w : ∀ x ∈ ds, w1B x = true) (h : ds.all scalB = true) : pyOk ds := fun d hd => by
  obtain ⟨p, h1, h2, h3⟩ := scal_py (w d hd) (List.all_eq_true.mp h d hd)
  exact ⟨p, h1, h2, by omega⟩
theorem shaped_str {s : Str} (h : PyData.strOk s = true) : SeqAt.shaped (.str s) = true := by
  unfold SeqAt.shaped
  rw [PyData.canLay0, h]
  rfl
theorem ne_tup {ds : List D} {e : D} {p : PyData} {Q : Bool → Prop} {E : Xn → Prop} (w : ∀ x ∈ ds, w1B x = true) (h : ds.all scalB = true) (he : e.py = some p) (hs : SeqAt.shaped p = true) (hne : ∀ ps, PyData.eqv (.tuple ps) p = false) (q : Q false) : eqM (.tup ds) e Q E := by
  obtain ⟨ps, h1, _, h2⟩ := pyOk_shaped (scals_py w h)
  unfold eqM
  simp only [fl, D.py, h1, Option.map_some, he]
  refine ⟨h2, hs, ?_⟩
  rw [hne]; exact q
theorem p_is_true : ∀ ds QD ED, m_is_true ds QD ED → c_is_true (startE N_is_true ds) { nx := fun _ => QD .non, rt := fun d _ => QD d } ED := by
  intro ds QD ED h
  unfold m_is_true at h
  split at h
  · rename_i d
    obtain ⟨w, v, h⟩ := h
    show c_is_true [.sh d] _ ED
    cases d with
    | non => exact h
    | str s =>
      have e1 : ∀ Q : Bool → Prop, Q false → eqM (.str s) (.int 0) Q ED := fun Q q => q
      have e2 : ∀ Q : Bool → Prop, Q (s == ("" : Str)) → eqM (.str s) (.str "") Q ED := fun Q q => q
      have e3 : ∀ Q : Bool → Prop, Q false → eqM (.str s) (.tup []) Q ED := fun Q q => ⟨shaped_str (w1_str2 (wB1 w)).2, by decide, q⟩
      unfold c_is_true
      walk_at "dl0"
      refine e1 _ ?_
      walk_at "dl0"
      have h : QD (.bl (s != ("" : Str))) := h
      cases hs : (s == ("" : Str)) with
      | true =>
        have : (s != ("" : Str)) = false := by unfold bne; rw [hs]; rfl
        rw [this] at h
        exact h
      | false =>
        have : (s != ("" : Str)) = true := by unfold bne; rw [hs]; rfl
        rw [this] at h
        walk_at "dl0"
        refine (show _ ∧ _ from ⟨by decide, ?_⟩)
        exact e3 _ h
    | int i =>
      have e1 : ∀ Q : Bool → Prop, Q (i == 0) → eqM (.int i) (.int 0) Q ED := fun Q q => q
      have e2 : ∀ Q : Bool → Prop, Q false → eqM (.int i) (.str "") Q ED := fun Q q => q
      have e3 : ∀ Q : Bool → Prop, Q false → eqM (.int i) (.tup []) Q ED := fun Q q => ⟨rfl, by decide, q⟩
      unfold c_is_true
      walk_at "dl0"
      have h : QD (.bl (i != 0)) := h
      cases hs : (i == 0) with
      | true =>
        have : (i != 0) = false := by unfold bne; rw [hs]; rfl
        rw [this] at h
        exact h
      | false =>
        have : (i != 0) = true := by unfold bne; rw [hs]; rfl
        rw [this] at h
        walk_at "dl0"
        refine e2 _ ?_
        walk_at "dl0"
        refine (show _ ∧ _ from ⟨by decide, ?_⟩)
        exact e3 _ h
    | tup ds =>
      have hv : ds.all scalB = true := by
        unfold valB at v
        rw [Bool.and_eq_true] at v
        exact v.2
      unfold c_is_true
      walk_at "dl0"
      refine ne_tup (wB_tup w).2 hv rfl (by decide +kernel) (fun ps => rfl) ?_
      walk_at "dl0"
      refine ne_tup (wB_tup w).2 hv rfl (by decide +kernel) (fun ps => rfl) ?_
      walk_at "dl0"
      refine ⟨by decide, ?_⟩
      exact eq_nilT (scals_py (wB_tup w).2 hv) h
    | _ => cases v
  · exact h.elim

end DL.K01

namespace DL.K01
open PySem L2
local macro_rules | `(tactic| walk_at "dl") => `(tactic| simp only [ret, fail, bnd, frz, cC, cVar, bVar, cBin, cNeg, cNot, cAnd, cOr, cIf, vT, tCm, tCh, tTru, tNo, tAn, tOr', cNil, cCons, cTup, cLst, cIx, oNo, oIs, cSl, cCall, callD, cCallK, cB, sNil, sSeq, sDrop, sSet, sAsg, sPar, sRet, sRetN, sIf, sBrk, sCnt, sNo, sFor, sFrz, sApp, sPut, sSetU, uOf, uPop, uPopAt, isOwL, sAdopt,
  gNm, gTp, gsCons, gsNil, tYesD, cLc, iSeq, iRng, iEn, cIsi, cLRg, cBest, cSrtSet, cRev, iZp, cCallF, cCallKF, callF, sRetO, sRetF, tLend, frzE, cDct, prM, cJoin, cel, rgsM, len_lst, len_tup, len_dct, len_str, abs_int, list_lst, list_tup, tuple_lst, tuple_tup, items_lst, items_tup, items_str, enum_lst, enum_tup,
  bin_addI, bin_subI, bin_mulI, bin_divI, bin_modI, bin_powI, bin_addS, bin_addL, bin_addT, bin_mulL, bin_mulT, bin_mulS, cmp_eq, cmp_ne, cmp_lt, cmp_le, cmp_gt, cmp_ge, cmp_is, cmp_isnt, cmp_inS, cmp_ninS, eq_int, eq_str, ix_lst, ix_tup, tru_bl, tru_lst, tru_tup, tru_int, tru_non, non_non, non_int, non_str, non_bl, non_lst, non_tup, at_zero, at_one, at_two,
  isi_non, isi_bl, isi_int, isi_str, isi_lst, isi_tup, isi_dct, sub_tab, List.any_cons, List.any_nil, Bool.or_false, Bool.or_true, Bool.true_or, Bool.false_or, Bool.not_true, Bool.not_false,
  List.getElem?_cons_zero, List.getElem?_cons_succ, List.set_cons_zero, List.set_cons_succ, Bool.false_and, Bool.true_and, Bool.and_false, Bool.and_true, Bool.false_eq_true, if_true, if_false, ite_true, ite_false, List.length_cons, List.length_nil, List.length_map, true_and, and_true, ne_eq, not_true_eq_false, not_false_eq_true, reduceCtorEq, Nat.reduceAdd, Nat.zero_add, Int.cast_ofNat_Int, beq_self_eq_true, decide_true, decide_false, *])
local macro_rules | `(tactic| walk_at "dl0") => `(tactic| simp only [ret, fail, bnd, frz, cC, cVar, bVar, cBin, cNeg, cNot, cAnd, cOr, cIf, vT, tCm, tCh, tTru, tNo, tAn, tOr', cNil, cCons, cTup, cLst, cIx, oNo, oIs, cSl, cCall, callD, cCallK, cB, sNil, sSeq, sDrop, sSet, sAsg, sPar, sRet, sRetN, sIf, sBrk, sCnt, sNo, sFor, sFrz, sApp, sPut, sSetU, uOf, uPop, uPopAt, isOwL, sAdopt,
  gNm, gTp, gsCons, gsNil, tYesD, cLc, iSeq, iRng, iEn, cIsi, cLRg, cBest, cSrtSet, cRev, iZp, cCallF, cCallKF, callF, sRetO, sRetF, tLend, frzE, cDct, prM, cJoin, cel, rgsM, len_lst, len_tup, len_dct, len_str, abs_int, list_lst, list_tup, tuple_lst, tuple_tup, items_lst, items_tup, items_str, enum_lst, enum_tup,
  bin_addI, bin_subI, bin_mulI, bin_divI, bin_modI, bin_powI, bin_addS, bin_addL, bin_addT, bin_mulL, bin_mulT, bin_mulS, cmp_eq, cmp_ne, cmp_lt, cmp_le, cmp_gt, cmp_ge, cmp_is, cmp_isnt, cmp_inS, cmp_ninS, eq_int, eq_str, ix_lst, ix_tup, tru_bl, tru_lst, tru_tup, tru_int, tru_non, non_non, non_int, non_str, non_bl, non_lst, non_tup, at_zero, at_one, at_two,
  isi_non, isi_bl, isi_int, isi_str, isi_lst, isi_tup, isi_dct, sub_tab, List.any_cons, List.any_nil, Bool.or_false, Bool.or_true, Bool.true_or, Bool.false_or, Bool.not_true, Bool.not_false,
  List.getElem?_cons_zero, List.getElem?_cons_succ, List.set_cons_zero, List.set_cons_succ, Bool.false_and, Bool.true_and, Bool.and_false, Bool.and_true, Bool.false_eq_true, if_true, if_false, ite_true, ite_false, List.length_cons, List.length_nil, List.length_map, true_and, and_true, ne_eq, not_true_eq_false, not_false_eq_true, reduceCtorEq, Nat.reduceAdd, Nat.zero_add, Int.cast_ofNat_Int, beq_self_eq_true, decide_true, decide_false])
theorem p__law_draw : DrawC (sSeq c__law_draw1 (sAdopt 2 5 c__law_draw2)) :=
  draw_std thrB_ok mixB_ok finA_ok (fun s g c n a x l Q E n0 n1 q => ⟨⟨n0, n1⟩, q⟩) (fun s g c n a x l Q E n0 q => ⟨n0, q⟩)
theorem p__law_state : BegunC c__law_state N__law_state := begun_std

end DL.K01

namespace DL.K01
open PySem L2
local macro_rules | `(tactic| walk_at "dl") => `(tactic| simp only [ret, fail, bnd, frz, cC, cVar, bVar, cBin, cNeg, cNot, cAnd, cOr, cIf, vT, tCm, tCh, tTru, tNo, tAn, tOr', cNil, cCons, cTup, cLst, cIx, oNo, oIs, cSl, cCall, callD, cCallK, cB, sNil, sSeq, sDrop, sSet, sAsg, sPar, sRet, sRetN, sIf, sBrk, sCnt, sNo, sFor, sFrz, sApp, sPut, sSetU, uOf, uPop, uPopAt, isOwL, sAdopt,
  gNm, gTp, gsCons, gsNil, tYesD, cLc, iSeq, iRng, iEn, cIsi, cLRg, cBest, cSrtSet, cRev, iZp, cCallF, cCallKF, callF, sRetO, sRetF, tLend, frzE, cDct, prM, cJoin, cel, rgsM, len_lst, len_tup, len_dct, len_str, abs_int, list_lst, list_tup, tuple_lst, tuple_tup, items_lst, items_tup, items_str, enum_lst, enum_tup,
  bin_addI, bin_subI, bin_mulI, bin_divI, bin_modI, bin_powI, bin_addS, bin_addL, bin_addT, bin_mulL, bin_mulT, bin_mulS, cmp_eq, cmp_ne, cmp_lt, cmp_le, cmp_gt, cmp_ge, cmp_is, cmp_isnt, cmp_inS, cmp_ninS, eq_int, eq_str, ix_lst, ix_tup, tru_bl, tru_lst, tru_tup, tru_int, tru_non, non_non, non_int, non_str, non_bl, non_lst, non_tup, at_zero, at_one, at_two,
  isi_non, isi_bl, isi_int, isi_str, isi_lst, isi_tup, isi_dct, sub_tab, List.any_cons, List.any_nil, Bool.or_false, Bool.or_true, Bool.true_or, Bool.false_or, Bool.not_true, Bool.not_false,
  List.getElem?_cons_zero, List.getElem?_cons_succ, List.set_cons_zero, List.set_cons_succ, Bool.false_and, Bool.true_and, Bool.and_false, Bool.and_true, Bool.false_eq_true, if_true, if_false, ite_true, ite_false, List.length_cons, List.length_nil, List.length_map, true_and, and_true, ne_eq, not_true_eq_false, not_false_eq_true, reduceCtorEq, Nat.reduceAdd, Nat.zero_add, Int.cast_ofNat_Int, beq_self_eq_true, decide_true, decide_false, *])
local macro_rules | `(tactic| walk_at "dl0") => `(tactic| simp only [ret, fail, bnd, frz, cC, cVar, bVar, cBin, cNeg, cNot, cAnd, cOr, cIf, vT, tCm, tCh, tTru, tNo, tAn, tOr', cNil, cCons, cTup, cLst, cIx, oNo, oIs, cSl, cCall, callD, cCallK, cB, sNil, sSeq, sDrop, sSet, sAsg, sPar, sRet, sRetN, sIf, sBrk, sCnt, sNo, sFor, sFrz, sApp, sPut, sSetU, uOf, uPop, uPopAt, isOwL, sAdopt,
  gNm, gTp, gsCons, gsNil, tYesD, cLc, iSeq, iRng, iEn, cIsi, cLRg, cBest, cSrtSet, cRev, iZp, cCallF, cCallKF, callF, sRetO, sRetF, tLend, frzE, cDct, prM, cJoin, cel, rgsM, len_lst, len_tup, len_dct, len_str, abs_int, list_lst, list_tup, tuple_lst, tuple_tup, items_lst, items_tup, items_str, enum_lst, enum_tup,
  bin_addI, bin_subI, bin_mulI, bin_divI, bin_modI, bin_powI, bin_addS, bin_addL, bin_addT, bin_mulL, bin_mulT, bin_mulS, cmp_eq, cmp_ne, cmp_lt, cmp_le, cmp_gt, cmp_ge, cmp_is, cmp_isnt, cmp_inS, cmp_ninS, eq_int, eq_str, ix_lst, ix_tup, tru_bl, tru_lst, tru_tup, tru_int, tru_non, non_non, non_int, non_str, non_bl, non_lst, non_tup, at_zero, at_one, at_two,
  isi_non, isi_bl, isi_int, isi_str, isi_lst, isi_tup, isi_dct, sub_tab, List.any_cons, List.any_nil, Bool.or_false, Bool.or_true, Bool.true_or, Bool.false_or, Bool.not_true, Bool.not_false,
  List.getElem?_cons_zero, List.getElem?_cons_succ, List.set_cons_zero, List.set_cons_succ, Bool.false_and, Bool.true_and, Bool.and_false, Bool.and_true, Bool.false_eq_true, if_true, if_false, ite_true, ite_false, List.length_cons, List.length_nil, List.length_map, true_and, and_true, ne_eq, not_true_eq_false, not_false_eq_true, reduceCtorEq, Nat.reduceAdd, Nat.zero_add, Int.cast_ofNat_Int, beq_self_eq_true, decide_true, decide_false])
theorem p__law_pick : ∀ ds QD ED, m__law_pick ds QD ED → c__law_pick (startE N__law_pick ds) { nx := fun _ => QD .non, rt := fun d _ => QD d } ED := by
  intro ds QD ED h
  unfold m__law_pick at h
  split at h
  · exact pick_std (x := "_law_draw_here") (y := "_law_some") _ QD ED h
  · rename_i z
    obtain ⟨⟨hn, hl⟩, h⟩ := h
    show c__law_pick [.sh .gen, .sh (.str z)] _ ED
    unfold c__law_pick
    walk_at "dl0"
    refine ⟨Nat.le_trans hl (by decide), ⟨by omega, by omega⟩, fun k k0 k1 => ?_⟩
    obtain ⟨n, rfl⟩ : ∃ n : Nat, k = n := ⟨k.toNat, by omega⟩
    refine (show _ ∧ _ from ⟨Nat.le_trans hl (by decide), ?_⟩)
    have hz : z.cps.toList.length = z.length := Array.length_toList
    have hn : n < z.cps.toList.length := by omega
    have e : atI z.cps.toList (n : Int) = some z.cps.toList[n] := by
      unfold atI ixN
      rw [if_pos (by omega), if_pos (by omega)]
      show z.cps.toList[(n : Int).toNat]? = _
      rw [Int.toNat_natCast, List.getElem?_eq_getElem hn]
    show match atI z.cps.toList (n : Int) with | some c => QD (.str ⟨#[c]⟩) | none => False
    rw [e]
    exact h _ (List.getElem_mem _)
  · exact h.elim

end DL.K01

namespace DL.K01
open PySem L2
local macro_rules | `(tactic| walk_at "dl") => `(tactic| simp only [ret, fail, bnd, frz, cC, cVar, bVar, cBin, cNeg, cNot, cAnd, cOr, cIf, vT, tCm, tCh, tTru, tNo, tAn, tOr', cNil, cCons, cTup, cLst, cIx, oNo, oIs, cSl, cCall, callD, cCallK, cB, sNil, sSeq, sDrop, sSet, sAsg, sPar, sRet, sRetN, sIf, sBrk, sCnt, sNo, sFor, sFrz, sApp, sPut, sSetU, uOf, uPop, uPopAt, isOwL, sAdopt,
  gNm, gTp, gsCons, gsNil, tYesD, cLc, iSeq, iRng, iEn, cIsi, cLRg, cBest, cSrtSet, cRev, iZp, cCallF, cCallKF, callF, sRetO, sRetF, tLend, frzE, cDct, prM, cJoin, cel, rgsM, len_lst, len_tup, len_dct, len_str, abs_int, list_lst, list_tup, tuple_lst, tuple_tup, items_lst, items_tup, items_str, enum_lst, enum_tup,
  bin_addI, bin_subI, bin_mulI, bin_divI, bin_modI, bin_powI, bin_addS, bin_addL, bin_addT, bin_mulL, bin_mulT, bin_mulS, cmp_eq, cmp_ne, cmp_lt, cmp_le, cmp_gt, cmp_ge, cmp_is, cmp_isnt, cmp_inS, cmp_ninS, eq_int, eq_str, ix_lst, ix_tup, tru_bl, tru_lst, tru_tup, tru_int, tru_non, non_non, non_int, non_str, non_bl, non_lst, non_tup, at_zero, at_one, at_two,
  isi_non, isi_bl, isi_int, isi_str, isi_lst, isi_tup, isi_dct, sub_tab, List.any_cons, List.any_nil, Bool.or_false, Bool.or_true, Bool.true_or, Bool.false_or, Bool.not_true, Bool.not_false,
  List.getElem?_cons_zero, List.getElem?_cons_succ, List.set_cons_zero, List.set_cons_succ, Bool.false_and, Bool.true_and, Bool.and_false, Bool.and_true, Bool.false_eq_true, if_true, if_false, ite_true, ite_false, List.length_cons, List.length_nil, List.length_map, true_and, and_true, ne_eq, not_true_eq_false, not_false_eq_true, reduceCtorEq, Nat.reduceAdd, Nat.zero_add, Int.cast_ofNat_Int, beq_self_eq_true, decide_true, decide_false, *])
local macro_rules | `(tactic| walk_at "dl0") => `(tactic| simp only [ret, fail, bnd, frz, cC, cVar, bVar, cBin, cNeg, cNot, cAnd, cOr, cIf, vT, tCm, tCh, tTru, tNo, tAn, tOr', cNil, cCons, cTup, cLst, cIx, oNo, oIs, cSl, cCall, callD, cCallK, cB, sNil, sSeq, sDrop, sSet, sAsg, sPar, sRet, sRetN, sIf, sBrk, sCnt, sNo, sFor, sFrz, sApp, sPut, sSetU, uOf, uPop, uPopAt, isOwL, sAdopt,
  gNm, gTp, gsCons, gsNil, tYesD, cLc, iSeq, iRng, iEn, cIsi, cLRg, cBest, cSrtSet, cRev, iZp, cCallF, cCallKF, callF, sRetO, sRetF, tLend, frzE, cDct, prM, cJoin, cel, rgsM, len_lst, len_tup, len_dct, len_str, abs_int, list_lst, list_tup, tuple_lst, tuple_tup, items_lst, items_tup, items_str, enum_lst, enum_tup,
  bin_addI, bin_subI, bin_mulI, bin_divI, bin_modI, bin_powI, bin_addS, bin_addL, bin_addT, bin_mulL, bin_mulT, bin_mulS, cmp_eq, cmp_ne, cmp_lt, cmp_le, cmp_gt, cmp_ge, cmp_is, cmp_isnt, cmp_inS, cmp_ninS, eq_int, eq_str, ix_lst, ix_tup, tru_bl, tru_lst, tru_tup, tru_int, tru_non, non_non, non_int, non_str, non_bl, non_lst, non_tup, at_zero, at_one, at_two,
  isi_non, isi_bl, isi_int, isi_str, isi_lst, isi_tup, isi_dct, sub_tab, List.any_cons, List.any_nil, Bool.or_false, Bool.or_true, Bool.true_or, Bool.false_or, Bool.not_true, Bool.not_false,
  List.getElem?_cons_zero, List.getElem?_cons_succ, List.set_cons_zero, List.set_cons_succ, Bool.false_and, Bool.true_and, Bool.and_false, Bool.and_true, Bool.false_eq_true, if_true, if_false, ite_true, ite_false, List.length_cons, List.length_nil, List.length_map, true_and, and_true, ne_eq, not_true_eq_false, not_false_eq_true, reduceCtorEq, Nat.reduceAdd, Nat.zero_add, Int.cast_ofNat_Int, beq_self_eq_true, decide_true, decide_false])
theorem p__law_mixed : ∀ ds QD ED, m__law_mixed ds QD ED → c__law_mixed (startE N__law_mixed ds) { nx := fun _ => QD .non, rt := fun d _ => QD d } ED := mixed_std

end DL.K01

namespace DL.K01
open PySem L2
local macro_rules | `(tactic| walk_at "dl") => `(tactic| simp only [ret, fail, bnd, frz, cC, cVar, bVar, cBin, cNeg, cNot, cAnd, cOr, cIf, vT, tCm, tCh, tTru, tNo, tAn, tOr', cNil, cCons, cTup, cLst, cIx, oNo, oIs, cSl, cCall, callD, cCallK, cB, sNil, sSeq, sDrop, sSet, sAsg, sPar, sRet, sRetN, sIf, sBrk, sCnt, sNo, sFor, sFrz, sApp, sPut, sSetU, uOf, uPop, uPopAt, isOwL, sAdopt,
  gNm, gTp, gsCons, gsNil, tYesD, cLc, iSeq, iRng, iEn, cIsi, cLRg, cBest, cSrtSet, cRev, iZp, cCallF, cCallKF, callF, sRetO, sRetF, tLend, frzE, cDct, prM, cJoin, cel, rgsM, len_lst, len_tup, len_dct, len_str, abs_int, list_lst, list_tup, tuple_lst, tuple_tup, items_lst, items_tup, items_str, enum_lst, enum_tup,
  bin_addI, bin_subI, bin_mulI, bin_divI, bin_modI, bin_powI, bin_addS, bin_addL, bin_addT, bin_mulL, bin_mulT, bin_mulS, cmp_eq, cmp_ne, cmp_lt, cmp_le, cmp_gt, cmp_ge, cmp_is, cmp_isnt, cmp_inS, cmp_ninS, eq_int, eq_str, ix_lst, ix_tup, tru_bl, tru_lst, tru_tup, tru_int, tru_non, non_non, non_int, non_str, non_bl, non_lst, non_tup, at_zero, at_one, at_two,
  isi_non, isi_bl, isi_int, isi_str, isi_lst, isi_tup, isi_dct, sub_tab, List.any_cons, List.any_nil, Bool.or_false, Bool.or_true, Bool.true_or, Bool.false_or, Bool.not_true, Bool.not_false,
  List.getElem?_cons_zero, List.getElem?_cons_succ, List.set_cons_zero, List.set_cons_succ, Bool.false_and, Bool.true_and, Bool.and_false, Bool.and_true, Bool.false_eq_true, if_true, if_false, ite_true, ite_false, List.length_cons, List.length_nil, List.length_map, true_and, and_true, ne_eq, not_true_eq_false, not_false_eq_true, reduceCtorEq, Nat.reduceAdd, Nat.zero_add, Int.cast_ofNat_Int, beq_self_eq_true, decide_true, decide_false, *])
local macro_rules | `(tactic| walk_at "dl0") => `(tactic| simp only [ret, fail, bnd, frz, cC, cVar, bVar, cBin, cNeg, cNot, cAnd, cOr, cIf, vT, tCm, tCh, tTru, tNo, tAn, tOr', cNil, cCons, cTup, cLst, cIx, oNo, oIs, cSl, cCall, callD, cCallK, cB, sNil, sSeq, sDrop, sSet, sAsg, sPar, sRet, sRetN, sIf, sBrk, sCnt, sNo, sFor, sFrz, sApp, sPut, sSetU, uOf, uPop, uPopAt, isOwL, sAdopt,
  gNm, gTp, gsCons, gsNil, tYesD, cLc, iSeq, iRng, iEn, cIsi, cLRg, cBest, cSrtSet, cRev, iZp, cCallF, cCallKF, callF, sRetO, sRetF, tLend, frzE, cDct, prM, cJoin, cel, rgsM, len_lst, len_tup, len_dct, len_str, abs_int, list_lst, list_tup, tuple_lst, tuple_tup, items_lst, items_tup, items_str, enum_lst, enum_tup,
  bin_addI, bin_subI, bin_mulI, bin_divI, bin_modI, bin_powI, bin_addS, bin_addL, bin_addT, bin_mulL, bin_mulT, bin_mulS, cmp_eq, cmp_ne, cmp_lt, cmp_le, cmp_gt, cmp_ge, cmp_is, cmp_isnt, cmp_inS, cmp_ninS, eq_int, eq_str, ix_lst, ix_tup, tru_bl, tru_lst, tru_tup, tru_int, tru_non, non_non, non_int, non_str, non_bl, non_lst, non_tup, at_zero, at_one, at_two,
  isi_non, isi_bl, isi_int, isi_str, isi_lst, isi_tup, isi_dct, sub_tab, List.any_cons, List.any_nil, Bool.or_false, Bool.or_true, Bool.true_or, Bool.false_or, Bool.not_true, Bool.not_false,
  List.getElem?_cons_zero, List.getElem?_cons_succ, List.set_cons_zero, List.set_cons_succ, Bool.false_and, Bool.true_and, Bool.and_false, Bool.and_true, Bool.false_eq_true, if_true, if_false, ite_true, ite_false, List.length_cons, List.length_nil, List.length_map, true_and, and_true, ne_eq, not_true_eq_false, not_false_eq_true, reduceCtorEq, Nat.reduceAdd, Nat.zero_add, Int.cast_ofNat_Int, beq_self_eq_true, decide_true, decide_false])
theorem p__law_thing : ∀ ds QD ED, m__law_thing ds QD ED → c__law_thing (startE N__law_thing ds) { nx := fun _ => QD .non, rt := fun d _ => QD d } ED := by
  intro ds QD ED h
  unfold m__law_thing at h
  split at h
  · show c__law_thing [.sh .gen, .no] _ ED
    unfold c__law_thing
    walk_at "dl0"
    repeat (first | refine ⟨by decide, ?_⟩ | refine ⟨by unfold MulOk; decide +kernel, ?_⟩ | refine ⟨by unfold CPow; decide +kernel, ?_⟩)
    dsimp only [kvD, keyD]
    repeat (first | refine ⟨by decide, ?_⟩ | refine ⟨by unfold MulOk; decide +kernel, ?_⟩ | refine ⟨by unfold CPow; decide +kernel, ?_⟩)
    exact fun d hd => h d ((List.all_eq_true (p := wB)).mp (by decide +kernel) d hd) ((List.all_eq_true (p := pyB)).mp (by decide +kernel) d hd)
  · exact h.elim

end DL.K01

namespace DL.K01
open PySem L2
local macro_rules | `(tactic| walk_at "dl") => `(tactic| simp only [ret, fail, bnd, frz, cC, cVar, bVar, cBin, cNeg, cNot, cAnd, cOr, cIf, vT, tCm, tCh, tTru, tNo, tAn, tOr', cNil, cCons, cTup, cLst, cIx, oNo, oIs, cSl, cCall, callD, cCallK, cB, sNil, sSeq, sDrop, sSet, sAsg, sPar, sRet, sRetN, sIf, sBrk, sCnt, sNo, sFor, sFrz, sApp, sPut, sSetU, uOf, uPop, uPopAt, isOwL, sAdopt,
  gNm, gTp, gsCons, gsNil, tYesD, cLc, iSeq, iRng, iEn, cIsi, cLRg, cBest, cSrtSet, cRev, iZp, cCallF, cCallKF, callF, sRetO, sRetF, tLend, frzE, cDct, prM, cJoin, cel, rgsM, len_lst, len_tup, len_dct, len_str, abs_int, list_lst, list_tup, tuple_lst, tuple_tup, items_lst, items_tup, items_str, enum_lst, enum_tup,
  bin_addI, bin_subI, bin_mulI, bin_divI, bin_modI, bin_powI, bin_addS, bin_addL, bin_addT, bin_mulL, bin_mulT, bin_mulS, cmp_eq, cmp_ne, cmp_lt, cmp_le, cmp_gt, cmp_ge, cmp_is, cmp_isnt, cmp_inS, cmp_ninS, eq_int, eq_str, ix_lst, ix_tup, tru_bl, tru_lst, tru_tup, tru_int, tru_non, non_non, non_int, non_str, non_bl, non_lst, non_tup, at_zero, at_one, at_two,
  isi_non, isi_bl, isi_int, isi_str, isi_lst, isi_tup, isi_dct, sub_tab, List.any_cons, List.any_nil, Bool.or_false, Bool.or_true, Bool.true_or, Bool.false_or, Bool.not_true, Bool.not_false,
  List.getElem?_cons_zero, List.getElem?_cons_succ, List.set_cons_zero, List.set_cons_succ, Bool.false_and, Bool.true_and, Bool.and_false, Bool.and_true, Bool.false_eq_true, if_true, if_false, ite_true, ite_false, List.length_cons, List.length_nil, List.length_map, true_and, and_true, ne_eq, not_true_eq_false, not_false_eq_true, reduceCtorEq, Nat.reduceAdd, Nat.zero_add, Int.cast_ofNat_Int, beq_self_eq_true, decide_true, decide_false, *])
local macro_rules | `(tactic| walk_at "dl0") => `(tactic| simp only [ret, fail, bnd, frz, cC, cVar, bVar, cBin, cNeg, cNot, cAnd, cOr, cIf, vT, tCm, tCh, tTru, tNo, tAn, tOr', cNil, cCons, cTup, cLst, cIx, oNo, oIs, cSl, cCall, callD, cCallK, cB, sNil, sSeq, sDrop, sSet, sAsg, sPar, sRet, sRetN, sIf, sBrk, sCnt, sNo, sFor, sFrz, sApp, sPut, sSetU, uOf, uPop, uPopAt, isOwL, sAdopt,
  gNm, gTp, gsCons, gsNil, tYesD, cLc, iSeq, iRng, iEn, cIsi, cLRg, cBest, cSrtSet, cRev, iZp, cCallF, cCallKF, callF, sRetO, sRetF, tLend, frzE, cDct, prM, cJoin, cel, rgsM, len_lst, len_tup, len_dct, len_str, abs_int, list_lst, list_tup, tuple_lst, tuple_tup, items_lst, items_tup, items_str, enum_lst, enum_tup,
  bin_addI, bin_subI, bin_mulI, bin_divI, bin_modI, bin_powI, bin_addS, bin_addL, bin_addT, bin_mulL, bin_mulT, bin_mulS, cmp_eq, cmp_ne, cmp_lt, cmp_le, cmp_gt, cmp_ge, cmp_is, cmp_isnt, cmp_inS, cmp_ninS, eq_int, eq_str, ix_lst, ix_tup, tru_bl, tru_lst, tru_tup, tru_int, tru_non, non_non, non_int, non_str, non_bl, non_lst, non_tup, at_zero, at_one, at_two,
  isi_non, isi_bl, isi_int, isi_str, isi_lst, isi_tup, isi_dct, sub_tab, List.any_cons, List.any_nil, Bool.or_false, Bool.or_true, Bool.true_or, Bool.false_or, Bool.not_true, Bool.not_false,
  List.getElem?_cons_zero, List.getElem?_cons_succ, List.set_cons_zero, List.set_cons_succ, Bool.false_and, Bool.true_and, Bool.and_false, Bool.and_true, Bool.false_eq_true, if_true, if_false, ite_true, ite_false, List.length_cons, List.length_nil, List.length_map, true_and, and_true, ne_eq, not_true_eq_false, not_false_eq_true, reduceCtorEq, Nat.reduceAdd, Nat.zero_add, Int.cast_ofNat_Int, beq_self_eq_true, decide_true, decide_false])
theorem p__law_is_integer : ∀ ds QD ED, m__law_is_integer ds QD ED → c__law_is_integer (startE N__law_is_integer ds) { nx := fun _ => QD .non, rt := fun d _ => QD d } ED := p_is_integer

end DL.K01

namespace DL.K01
open PySem L2
local macro_rules | `(tactic| walk_at "dl") => `(tactic| simp only [ret, fail, bnd, frz, cC, cVar, bVar, cBin, cNeg, cNot, cAnd, cOr, cIf, vT, tCm, tCh, tTru, tNo, tAn, tOr', cNil, cCons, cTup, cLst, cIx, oNo, oIs, cSl, cCall, callD, cCallK, cB, sNil, sSeq, sDrop, sSet, sAsg, sPar, sRet, sRetN, sIf, sBrk, sCnt, sNo, sFor, sFrz, sApp, sPut, sSetU, uOf, uPop, uPopAt, isOwL, sAdopt,
  gNm, gTp, gsCons, gsNil, tYesD, cLc, iSeq, iRng, iEn, cIsi, cLRg, cBest, cSrtSet, cRev, iZp, cCallF, cCallKF, callF, sRetO, sRetF, tLend, frzE, cDct, prM, cJoin, cel, rgsM, len_lst, len_tup, len_dct, len_str, abs_int, list_lst, list_tup, tuple_lst, tuple_tup, items_lst, items_tup, items_str, enum_lst, enum_tup,
  bin_addI, bin_subI, bin_mulI, bin_divI, bin_modI, bin_powI, bin_addS, bin_addL, bin_addT, bin_mulL, bin_mulT, bin_mulS, cmp_eq, cmp_ne, cmp_lt, cmp_le, cmp_gt, cmp_ge, cmp_is, cmp_isnt, cmp_inS, cmp_ninS, eq_int, eq_str, ix_lst, ix_tup, tru_bl, tru_lst, tru_tup, tru_int, tru_non, non_non, non_int, non_str, non_bl, non_lst, non_tup, at_zero, at_one, at_two,
  isi_non, isi_bl, isi_int, isi_str, isi_lst, isi_tup, isi_dct, sub_tab, List.any_cons, List.any_nil, Bool.or_false, Bool.or_true, Bool.true_or, Bool.false_or, Bool.not_true, Bool.not_false,
  List.getElem?_cons_zero, List.getElem?_cons_succ, List.set_cons_zero, List.set_cons_succ, Bool.false_and, Bool.true_and, Bool.and_false, Bool.and_true, Bool.false_eq_true, if_true, if_false, ite_true, ite_false, List.length_cons, List.length_nil, List.length_map, true_and, and_true, ne_eq, not_true_eq_false, not_false_eq_true, reduceCtorEq, Nat.reduceAdd, Nat.zero_add, Int.cast_ofNat_Int, beq_self_eq_true, decide_true, decide_false, *])
local macro_rules | `(tactic| walk_at "dl0") => `(tactic| simp only [ret, fail, bnd, frz, cC, cVar, bVar, cBin, cNeg, cNot, cAnd, cOr, cIf, vT, tCm, tCh, tTru, tNo, tAn, tOr', cNil, cCons, cTup, cLst, cIx, oNo, oIs, cSl, cCall, callD, cCallK, cB, sNil, sSeq, sDrop, sSet, sAsg, sPar, sRet, sRetN, sIf, sBrk, sCnt, sNo, sFor, sFrz, sApp, sPut, sSetU, uOf, uPop, uPopAt, isOwL, sAdopt,
  gNm, gTp, gsCons, gsNil, tYesD, cLc, iSeq, iRng, iEn, cIsi, cLRg, cBest, cSrtSet, cRev, iZp, cCallF, cCallKF, callF, sRetO, sRetF, tLend, frzE, cDct, prM, cJoin, cel, rgsM, len_lst, len_tup, len_dct, len_str, abs_int, list_lst, list_tup, tuple_lst, tuple_tup, items_lst, items_tup, items_str, enum_lst, enum_tup,
  bin_addI, bin_subI, bin_mulI, bin_divI, bin_modI, bin_powI, bin_addS, bin_addL, bin_addT, bin_mulL, bin_mulT, bin_mulS, cmp_eq, cmp_ne, cmp_lt, cmp_le, cmp_gt, cmp_ge, cmp_is, cmp_isnt, cmp_inS, cmp_ninS, eq_int, eq_str, ix_lst, ix_tup, tru_bl, tru_lst, tru_tup, tru_int, tru_non, non_non, non_int, non_str, non_bl, non_lst, non_tup, at_zero, at_one, at_two,
  isi_non, isi_bl, isi_int, isi_str, isi_lst, isi_tup, isi_dct, sub_tab, List.any_cons, List.any_nil, Bool.or_false, Bool.or_true, Bool.true_or, Bool.false_or, Bool.not_true, Bool.not_false,
  List.getElem?_cons_zero, List.getElem?_cons_succ, List.set_cons_zero, List.set_cons_succ, Bool.false_and, Bool.true_and, Bool.and_false, Bool.and_true, Bool.false_eq_true, if_true, if_false, ite_true, ite_false, List.length_cons, List.length_nil, List.length_map, true_and, and_true, ne_eq, not_true_eq_false, not_false_eq_true, reduceCtorEq, Nat.reduceAdd, Nat.zero_add, Int.cast_ofNat_Int, beq_self_eq_true, decide_true, decide_false])
theorem signs_py {s : Str} {zs : List Nat} (h : PyData.strOk s = true) (hz : ∀ c ∈ zs, c ∈ s.cps.toList) : pyOk (zs.map fun c => D.str ⟨#[c]⟩) := fun d hd => by
  obtain ⟨c, hc, rfl⟩ := List.mem_map.mp hd
  refine ⟨_, rfl, ?_, Nat.zero_le _⟩
  have := hz c hc
  unfold PyData.strOk at h
  rw [← Array.all_toList] at h
  have := List.all_eq_true.mp h c this
  show PyData.strOk ⟨#[c]⟩ = true
  unfold PyData.strOk
  rw [← Array.all_toList]
  simpa using this
theorem p__law_is_name : ∀ ds QD ED, m__law_is_name ds QD ED → c__law_is_name (startE N__law_is_name ds) { nx := fun _ => QD .non, rt := fun d _ => QD d } ED := by
  intro ds QD ED h
  unfold m__law_is_name m_is_name at h
  split at h
  · rename_i d
    obtain ⟨w, h⟩ := h
    show c__law_is_name [.sh d, .no] _ ED
    cases d with
    | str s =>
      obtain ⟨hl, hok⟩ := w1_str2 w
      have hsz : s.length ≤ sizeLine := Nat.le_trans hl (by decide)
      unfold c__law_is_name
      walk_at "dl0"
      refine (show _ ∧ _ from ⟨by decide, ?_⟩)
      have hin : ∀ Q : Bool → Prop, Q (resB s) → cmpM .In (.str s) (.tup [.str "input", .str "kind", .str "mark", .str "open", .str "self"]) Q ED := fun Q q => q
      refine hin _ ?_
      rw [name_str] at h
      cases hr : resB s with
      | true =>
        rw [hr, Bool.not_true, Bool.false_and, Bool.and_false] at h
        exact h
      | false =>
        rw [hr, Bool.not_false, Bool.true_and] at h
        walk_at "dl0"
        refine ⟨hsz, ?_⟩
        by_cases h1 : (1 : Int) ≤ s.length
        · have h1' : (0 : Int) < s.length := by omega
          rw [decide_eq_true h1, Bool.true_and] at h
          rw [decide_eq_true h1']
          walk_at "dl0"
          by_cases h2 : (s.length : Int) ≤ 8
          · have h2' : (s.length : Int) < 9 := by omega
            rw [decide_eq_true h2, Bool.true_and] at h
            rw [decide_eq_true h2']
            walk_at "dl0"
            refine ⟨by rw [chars_len]; exact hsz, ?_⟩
            refine lc_fun (fun x => [.sh (.str s), .sh x]) (fun x => match x with | .str z => !inStr z LET | _ => false) (fun x => x) (fun x _ Q q => q) (fun x hx Q q => ?_) (fun x hx _ Q q => q) ?_
            · rw [chars_eq] at hx
              obtain ⟨c, _, rfl⟩ := List.mem_map.mp hx
              exact q
            · have e2 : ((chars s).filter fun x => match x with | .str z => !inStr z LET | _ => false).map (fun x => x) = (s.cps.toList.filter fun c => !inStr ⟨#[c]⟩ LET).map fun c => D.str ⟨#[c]⟩ := by
                rw [List.map_id', chars_eq, List.filter_map]
                rfl
              rw [e2]
              refine (show _ ∧ _ from ⟨by decide, ?_⟩)
              refine eq_nilL (signs_py hok fun c hc => (List.mem_filter.mp hc).1) ?_
              have e3 : ((s.cps.toList.filter fun c => !inStr ⟨#[c]⟩ LET).map fun c => D.str ⟨#[c]⟩).isEmpty = s.cps.toList.all fun c => inStr ⟨#[c]⟩ LET := by
                rw [List.isEmpty_map, Bool.eq_iff_iff, List.isEmpty_iff, List.filter_eq_nil_iff, List.all_eq_true]
                constructor
                · intro q c hc
                  have := q c hc
                  simpa using this
                · intro q c hc
                  rw [q c hc]
                  simp
              rw [e3]
              exact h
          · have h2' : ¬ (s.length : Int) < 9 := by omega
            rw [decide_eq_false h2, Bool.false_and] at h
            rw [decide_eq_false h2']
            exact h
        · have h1' : ¬ (0 : Int) < s.length := by omega
          rw [decide_eq_false h1, Bool.false_and, Bool.false_and] at h
          rw [decide_eq_false h1']
          exact h
    | obj _ _ => cases w
    | raw _ => cases w
    | gen => cases w
    | scr _ => cases w
    | _ => exact h
  · exact h.elim

end DL.K01

namespace DL.K01
open PySem L2
local macro_rules | `(tactic| walk_at "dl") => `(tactic| simp only [ret, fail, bnd, frz, cC, cVar, bVar, cBin, cNeg, cNot, cAnd, cOr, cIf, vT, tCm, tCh, tTru, tNo, tAn, tOr', cNil, cCons, cTup, cLst, cIx, oNo, oIs, cSl, cCall, callD, cCallK, cB, sNil, sSeq, sDrop, sSet, sAsg, sPar, sRet, sRetN, sIf, sBrk, sCnt, sNo, sFor, sFrz, sApp, sPut, sSetU, uOf, uPop, uPopAt, isOwL, sAdopt,
  gNm, gTp, gsCons, gsNil, tYesD, cLc, iSeq, iRng, iEn, cIsi, cLRg, cBest, cSrtSet, cRev, iZp, cCallF, cCallKF, callF, sRetO, sRetF, tLend, frzE, cDct, prM, cJoin, cel, rgsM, len_lst, len_tup, len_dct, len_str, abs_int, list_lst, list_tup, tuple_lst, tuple_tup, items_lst, items_tup, items_str, enum_lst, enum_tup,
  bin_addI, bin_subI, bin_mulI, bin_divI, bin_modI, bin_powI, bin_addS, bin_addL, bin_addT, bin_mulL, bin_mulT, bin_mulS, cmp_eq, cmp_ne, cmp_lt, cmp_le, cmp_gt, cmp_ge, cmp_is, cmp_isnt, cmp_inS, cmp_ninS, eq_int, eq_str, ix_lst, ix_tup, tru_bl, tru_lst, tru_tup, tru_int, tru_non, non_non, non_int, non_str, non_bl, non_lst, non_tup, at_zero, at_one, at_two,
  isi_non, isi_bl, isi_int, isi_str, isi_lst, isi_tup, isi_dct, sub_tab, List.any_cons, List.any_nil, Bool.or_false, Bool.or_true, Bool.true_or, Bool.false_or, Bool.not_true, Bool.not_false,
  List.getElem?_cons_zero, List.getElem?_cons_succ, List.set_cons_zero, List.set_cons_succ, Bool.false_and, Bool.true_and, Bool.and_false, Bool.and_true, Bool.false_eq_true, if_true, if_false, ite_true, ite_false, List.length_cons, List.length_nil, List.length_map, true_and, and_true, ne_eq, not_true_eq_false, not_false_eq_true, reduceCtorEq, Nat.reduceAdd, Nat.zero_add, Int.cast_ofNat_Int, beq_self_eq_true, decide_true, decide_false, *])
local macro_rules | `(tactic| walk_at "dl0") => `(tactic| simp only [ret, fail, bnd, frz, cC, cVar, bVar, cBin, cNeg, cNot, cAnd, cOr, cIf, vT, tCm, tCh, tTru, tNo, tAn, tOr', cNil, cCons, cTup, cLst, cIx, oNo, oIs, cSl, cCall, callD, cCallK, cB, sNil, sSeq, sDrop, sSet, sAsg, sPar, sRet, sRetN, sIf, sBrk, sCnt, sNo, sFor, sFrz, sApp, sPut, sSetU, uOf, uPop, uPopAt, isOwL, sAdopt,
  gNm, gTp, gsCons, gsNil, tYesD, cLc, iSeq, iRng, iEn, cIsi, cLRg, cBest, cSrtSet, cRev, iZp, cCallF, cCallKF, callF, sRetO, sRetF, tLend, frzE, cDct, prM, cJoin, cel, rgsM, len_lst, len_tup, len_dct, len_str, abs_int, list_lst, list_tup, tuple_lst, tuple_tup, items_lst, items_tup, items_str, enum_lst, enum_tup,
  bin_addI, bin_subI, bin_mulI, bin_divI, bin_modI, bin_powI, bin_addS, bin_addL, bin_addT, bin_mulL, bin_mulT, bin_mulS, cmp_eq, cmp_ne, cmp_lt, cmp_le, cmp_gt, cmp_ge, cmp_is, cmp_isnt, cmp_inS, cmp_ninS, eq_int, eq_str, ix_lst, ix_tup, tru_bl, tru_lst, tru_tup, tru_int, tru_non, non_non, non_int, non_str, non_bl, non_lst, non_tup, at_zero, at_one, at_two,
  isi_non, isi_bl, isi_int, isi_str, isi_lst, isi_tup, isi_dct, sub_tab, List.any_cons, List.any_nil, Bool.or_false, Bool.or_true, Bool.true_or, Bool.false_or, Bool.not_true, Bool.not_false,
  List.getElem?_cons_zero, List.getElem?_cons_succ, List.set_cons_zero, List.set_cons_succ, Bool.false_and, Bool.true_and, Bool.and_false, Bool.and_true, Bool.false_eq_true, if_true, if_false, ite_true, ite_false, List.length_cons, List.length_nil, List.length_map, true_and, and_true, ne_eq, not_true_eq_false, not_false_eq_true, reduceCtorEq, Nat.reduceAdd, Nat.zero_add, Int.cast_ofNat_Int, beq_self_eq_true, decide_true, decide_false])
theorem p__law_is_scalar : ∀ ds QD ED, m__law_is_scalar ds QD ED → c__law_is_scalar (startE N__law_is_scalar ds) { nx := fun _ => QD .non, rt := fun d _ => QD d } ED := by
  intro ds QD ED h
  unfold m__law_is_scalar m_is_scalar at h
  split at h
  · rename_i d
    obtain ⟨w, h⟩ := h
    show c__law_is_scalar [.sh d] _ ED
    cases d with
    | str s =>
      have hl := w1_str w
      have hsz : s.length ≤ sizeLine := Nat.le_trans hl (by decide)
      unfold c__law_is_scalar
      walk_at "dl0"
      refine ⟨hsz, ?_⟩
      rw [scal_str] at h
      by_cases h1 : (s.length : Int) ≤ 60
      · have h1' : (s.length : Int) < 61 := by omega
        rw [decide_eq_true h1, Bool.true_and] at h
        rw [decide_eq_true h1']
        exact h
      · have h1' : ¬ (s.length : Int) < 61 := by omega
        rw [decide_eq_false h1, Bool.false_and] at h
        rw [decide_eq_false h1']
        exact h
    | int i =>
      have hi : ∀ Q : D → Prop, Q (.bl true) → m__law_is_integer [.int i] Q ED := fun Q q => ⟨rfl, q⟩
      unfold c__law_is_scalar
      walk_at "dl0"
      refine hi _ ?_
      walk_at "dl0"
      refine ⟨by unfold CPow; decide +kernel, ?_⟩
      rw [scal_int] at h
      have e : ((10 : Int) ^ (18 : Int).toNat) = 1000000000000000000 := by decide +kernel
      rw [e]
      have e2 : decide ((if i < 0 then -i else i) ≤ 1000000000000000000) = (decide ((-1000000000000000000 : Int) ≤ i) && decide (i ≤ 1000000000000000000)) := by
        rw [← Bool.decide_and]
        refine decide_eq_decide.mpr ?_
        split <;> omega
      rw [e2]
      exact h
    | non => exact h
    | bl b => exact ⟨rfl, rfl, h⟩
    | lst _ => exact ⟨rfl, rfl, h⟩
    | tup _ => exact ⟨rfl, rfl, h⟩
    | dct _ => exact ⟨rfl, rfl, h⟩
    | _ => cases w
  · exact h.elim

end DL.K01

namespace DL.K01
open PySem L2
local macro_rules | `(tactic| walk_at "dl") => `(tactic| simp only [ret, fail, bnd, frz, cC, cVar, bVar, cBin, cNeg, cNot, cAnd, cOr, cIf, vT, tCm, tCh, tTru, tNo, tAn, tOr', cNil, cCons, cTup, cLst, cIx, oNo, oIs, cSl, cCall, callD, cCallK, cB, sNil, sSeq, sDrop, sSet, sAsg, sPar, sRet, sRetN, sIf, sBrk, sCnt, sNo, sFor, sFrz, sApp, sPut, sSetU, uOf, uPop, uPopAt, isOwL, sAdopt,
  gNm, gTp, gsCons, gsNil, tYesD, cLc, iSeq, iRng, iEn, cIsi, cLRg, cBest, cSrtSet, cRev, iZp, cCallF, cCallKF, callF, sRetO, sRetF, tLend, frzE, cDct, prM, cJoin, cel, rgsM, len_lst, len_tup, len_dct, len_str, abs_int, list_lst, list_tup, tuple_lst, tuple_tup, items_lst, items_tup, items_str, enum_lst, enum_tup,
  bin_addI, bin_subI, bin_mulI, bin_divI, bin_modI, bin_powI, bin_addS, bin_addL, bin_addT, bin_mulL, bin_mulT, bin_mulS, cmp_eq, cmp_ne, cmp_lt, cmp_le, cmp_gt, cmp_ge, cmp_is, cmp_isnt, cmp_inS, cmp_ninS, eq_int, eq_str, ix_lst, ix_tup, tru_bl, tru_lst, tru_tup, tru_int, tru_non, non_non, non_int, non_str, non_bl, non_lst, non_tup, at_zero, at_one, at_two,
  isi_non, isi_bl, isi_int, isi_str, isi_lst, isi_tup, isi_dct, sub_tab, List.any_cons, List.any_nil, Bool.or_false, Bool.or_true, Bool.true_or, Bool.false_or, Bool.not_true, Bool.not_false,
  List.getElem?_cons_zero, List.getElem?_cons_succ, List.set_cons_zero, List.set_cons_succ, Bool.false_and, Bool.true_and, Bool.and_false, Bool.and_true, Bool.false_eq_true, if_true, if_false, ite_true, ite_false, List.length_cons, List.length_nil, List.length_map, true_and, and_true, ne_eq, not_true_eq_false, not_false_eq_true, reduceCtorEq, Nat.reduceAdd, Nat.zero_add, Int.cast_ofNat_Int, beq_self_eq_true, decide_true, decide_false, *])
local macro_rules | `(tactic| walk_at "dl0") => `(tactic| simp only [ret, fail, bnd, frz, cC, cVar, bVar, cBin, cNeg, cNot, cAnd, cOr, cIf, vT, tCm, tCh, tTru, tNo, tAn, tOr', cNil, cCons, cTup, cLst, cIx, oNo, oIs, cSl, cCall, callD, cCallK, cB, sNil, sSeq, sDrop, sSet, sAsg, sPar, sRet, sRetN, sIf, sBrk, sCnt, sNo, sFor, sFrz, sApp, sPut, sSetU, uOf, uPop, uPopAt, isOwL, sAdopt,
  gNm, gTp, gsCons, gsNil, tYesD, cLc, iSeq, iRng, iEn, cIsi, cLRg, cBest, cSrtSet, cRev, iZp, cCallF, cCallKF, callF, sRetO, sRetF, tLend, frzE, cDct, prM, cJoin, cel, rgsM, len_lst, len_tup, len_dct, len_str, abs_int, list_lst, list_tup, tuple_lst, tuple_tup, items_lst, items_tup, items_str, enum_lst, enum_tup,
  bin_addI, bin_subI, bin_mulI, bin_divI, bin_modI, bin_powI, bin_addS, bin_addL, bin_addT, bin_mulL, bin_mulT, bin_mulS, cmp_eq, cmp_ne, cmp_lt, cmp_le, cmp_gt, cmp_ge, cmp_is, cmp_isnt, cmp_inS, cmp_ninS, eq_int, eq_str, ix_lst, ix_tup, tru_bl, tru_lst, tru_tup, tru_int, tru_non, non_non, non_int, non_str, non_bl, non_lst, non_tup, at_zero, at_one, at_two,
  isi_non, isi_bl, isi_int, isi_str, isi_lst, isi_tup, isi_dct, sub_tab, List.any_cons, List.any_nil, Bool.or_false, Bool.or_true, Bool.true_or, Bool.false_or, Bool.not_true, Bool.not_false,
  List.getElem?_cons_zero, List.getElem?_cons_succ, List.set_cons_zero, List.set_cons_succ, Bool.false_and, Bool.true_and, Bool.and_false, Bool.and_true, Bool.false_eq_true, if_true, if_false, ite_true, ite_false, List.length_cons, List.length_nil, List.length_map, true_and, and_true, ne_eq, not_true_eq_false, not_false_eq_true, reduceCtorEq, Nat.reduceAdd, Nat.zero_add, Int.cast_ofNat_Int, beq_self_eq_true, decide_true, decide_false])
theorem p__law_word : ∀ ds QD ED, m__law_word ds QD ED → c__law_word (startE N__law_word ds) { nx := fun _ => QD .non, rt := fun d _ => QD d } ED := by
  intro ds QD ED h
  unfold m__law_word at h
  split at h
  · show c__law_word [.sh .gen, .no, .no] _ ED
    unfold c__law_word
    walk_at "dl0"
    refine ⟨⟨by decide, by decide⟩, fun k k0 k1 => ?_⟩
    refine (show _ ∧ _ from ⟨⟨by omega, by omega⟩, ?_⟩)
    refine (show _ ∧ _ from ⟨by rw [upto_len, sizeLine_eq]; omega, ?_⟩)
    refine lc_rel (fun x => [.sh .gen, .sh (.str LET), .sh x]) (fun _ => true) (fun _ x => ∃ c : Nat, c ∈ LET.cps.toList ∧ x = .str ⟨#[c]⟩) (fun x _ Q q => q) (fun x _ Q q => q) (fun x _ _ Q q => ?_) (fun rs hr => ?_)
    · exact ⟨rfl, ⟨by decide +kernel, by decide +kernel⟩, fun c hc => q _ ⟨c, hc, rfl⟩⟩
    · rw [List.filter_eq_self.mpr fun _ _ => rfl] at hr
      have hs : ∀ {ds rs : List D}, Paired (fun _ x => ∃ c : Nat, c ∈ LET.cps.toList ∧ x = .str ⟨#[c]⟩) ds rs → ∃ cs : List Nat, rs = cs.map (fun c => D.str ⟨#[c]⟩) ∧ cs.length = ds.length ∧ ∀ c ∈ cs, c ∈ LET.cps.toList := by
        intro ds rs hp
        induction hp with
        | nil => exact ⟨[], rfl, rfl, fun c hc => by cases hc⟩
        | cons p t ih =>
          obtain ⟨c, hc, rfl⟩ := p
          obtain ⟨cs, rfl, h2, h3⟩ := ih
          refine ⟨c :: cs, rfl, by rw [List.length_cons, List.length_cons, h2], fun z hz => ?_⟩
          rcases List.mem_cons.mp hz with rfl | hz
          · exact hc
          · exact h3 z hz
      obtain ⟨cs, rfl, hl, hm⟩ := hs hr
      rw [upto_len] at hl
      have es : strsD (cs.map fun c => D.str ⟨#[c]⟩) = some (cs.map fun c => (⟨#[c]⟩ : Str)) := by
        have : ∀ cs : List Nat, strsD (cs.map fun c => D.str ⟨#[c]⟩) = some (cs.map fun c => (⟨#[c]⟩ : Str)) := by
          intro cs
          induction cs with
          | nil => rfl
          | cons c cs ih => simp only [List.map_cons, strsD, ih, Option.map_some]
        exact this cs
      have hsum : ((cs.map fun c => (⟨#[c]⟩ : Str)).map (·.length)).sum = cs.length := by
        have : ∀ cs : List Nat, ((cs.map fun c => (⟨#[c]⟩ : Str)).map (·.length)).sum = cs.length := by
          intro cs
          induction cs with
          | nil => rfl
          | cons c cs ih =>
            rw [List.map_cons, List.map_cons, List.sum_cons, ih, List.length_cons]
            show 1 + _ = _
            omega
        exact this cs
      show match strsD (cs.map fun c => D.str ⟨#[c]⟩) with | some ys => (ys.map (·.length)).sum + ys.length * (Str.ofString "").length ≤ 16777216 ∧ QD (.str (Txt.join "" ys)) | none => False
      rw [es]
      have e0 : (Str.ofString "").length = 0 := by decide +kernel
      have hj := StrLaws.join_length_le (Str.ofString "") (cs.map fun c => (⟨#[c]⟩ : Str))
      have eg : Txt.join (Str.ofString "") (cs.map fun c => (⟨#[c]⟩ : Str)) = Str.join (Str.ofString "") (cs.map fun c => (⟨#[c]⟩ : Str)) := StrLaws.glued_eq_join _ _
      rw [hsum, e0] at hj
      refine ⟨by rw [hsum, e0]; omega, h _ ?_ ?_⟩
      · rw [eg]; omega
      · rw [eg]
        unfold PyData.strOk
        rw [← Array.all_toList, List.all_eq_true]
        intro c hc
        rcases (PyProof.Rows.mem_join _ c _).mp hc with ⟨t, ht, hc⟩ | ⟨_, hc⟩
        · obtain ⟨z, hz, rfl⟩ := List.mem_map.mp ht
          have hz := hm z hz
          have : c = z := by simpa using hc
          subst this
          have hall : (LET.cps.toList.all fun c => decide (c < 0x110000)) = true := by decide +kernel
          exact List.all_eq_true.mp hall c hz
        · have : (Str.ofString "").cps.toList = [] := by decide +kernel
          rw [this] at hc
          cases hc
  · exact h.elim

end DL.K01

namespace DL.K01
open PySem L2
local macro_rules | `(tactic| walk_at "dl") => `(tactic| simp only [ret, fail, bnd, frz, cC, cVar, bVar, cBin, cNeg, cNot, cAnd, cOr, cIf, vT, tCm, tCh, tTru, tNo, tAn, tOr', cNil, cCons, cTup, cLst, cIx, oNo, oIs, cSl, cCall, callD, cCallK, cB, sNil, sSeq, sDrop, sSet, sAsg, sPar, sRet, sRetN, sIf, sBrk, sCnt, sNo, sFor, sFrz, sApp, sPut, sSetU, uOf, uPop, uPopAt, isOwL, sAdopt,
  gNm, gTp, gsCons, gsNil, tYesD, cLc, iSeq, iRng, iEn, cIsi, cLRg, cBest, cSrtSet, cRev, iZp, cCallF, cCallKF, callF, sRetO, sRetF, tLend, frzE, cDct, prM, cJoin, cel, rgsM, len_lst, len_tup, len_dct, len_str, abs_int, list_lst, list_tup, tuple_lst, tuple_tup, items_lst, items_tup, items_str, enum_lst, enum_tup,
  bin_addI, bin_subI, bin_mulI, bin_divI, bin_modI, bin_powI, bin_addS, bin_addL, bin_addT, bin_mulL, bin_mulT, bin_mulS, cmp_eq, cmp_ne, cmp_lt, cmp_le, cmp_gt, cmp_ge, cmp_is, cmp_isnt, cmp_inS, cmp_ninS, eq_int, eq_str, ix_lst, ix_tup, tru_bl, tru_lst, tru_tup, tru_int, tru_non, non_non, non_int, non_str, non_bl, non_lst, non_tup, at_zero, at_one, at_two,
  isi_non, isi_bl, isi_int, isi_str, isi_lst, isi_tup, isi_dct, sub_tab, List.any_cons, List.any_nil, Bool.or_false, Bool.or_true, Bool.true_or, Bool.false_or, Bool.not_true, Bool.not_false,
  List.getElem?_cons_zero, List.getElem?_cons_succ, List.set_cons_zero, List.set_cons_succ, Bool.false_and, Bool.true_and, Bool.and_false, Bool.and_true, Bool.false_eq_true, if_true, if_false, ite_true, ite_false, List.length_cons, List.length_nil, List.length_map, true_and, and_true, ne_eq, not_true_eq_false, not_false_eq_true, reduceCtorEq, Nat.reduceAdd, Nat.zero_add, Int.cast_ofNat_Int, beq_self_eq_true, decide_true, decide_false, *])
local macro_rules | `(tactic| walk_at "dl0") => `(tactic| simp only [ret, fail, bnd, frz, cC, cVar, bVar, cBin, cNeg, cNot, cAnd, cOr, cIf, vT, tCm, tCh, tTru, tNo, tAn, tOr', cNil, cCons, cTup, cLst, cIx, oNo, oIs, cSl, cCall, callD, cCallK, cB, sNil, sSeq, sDrop, sSet, sAsg, sPar, sRet, sRetN, sIf, sBrk, sCnt, sNo, sFor, sFrz, sApp, sPut, sSetU, uOf, uPop, uPopAt, isOwL, sAdopt,
  gNm, gTp, gsCons, gsNil, tYesD, cLc, iSeq, iRng, iEn, cIsi, cLRg, cBest, cSrtSet, cRev, iZp, cCallF, cCallKF, callF, sRetO, sRetF, tLend, frzE, cDct, prM, cJoin, cel, rgsM, len_lst, len_tup, len_dct, len_str, abs_int, list_lst, list_tup, tuple_lst, tuple_tup, items_lst, items_tup, items_str, enum_lst, enum_tup,
  bin_addI, bin_subI, bin_mulI, bin_divI, bin_modI, bin_powI, bin_addS, bin_addL, bin_addT, bin_mulL, bin_mulT, bin_mulS, cmp_eq, cmp_ne, cmp_lt, cmp_le, cmp_gt, cmp_ge, cmp_is, cmp_isnt, cmp_inS, cmp_ninS, eq_int, eq_str, ix_lst, ix_tup, tru_bl, tru_lst, tru_tup, tru_int, tru_non, non_non, non_int, non_str, non_bl, non_lst, non_tup, at_zero, at_one, at_two,
  isi_non, isi_bl, isi_int, isi_str, isi_lst, isi_tup, isi_dct, sub_tab, List.any_cons, List.any_nil, Bool.or_false, Bool.or_true, Bool.true_or, Bool.false_or, Bool.not_true, Bool.not_false,
  List.getElem?_cons_zero, List.getElem?_cons_succ, List.set_cons_zero, List.set_cons_succ, Bool.false_and, Bool.true_and, Bool.and_false, Bool.and_true, Bool.false_eq_true, if_true, if_false, ite_true, ite_false, List.length_cons, List.length_nil, List.length_map, true_and, and_true, ne_eq, not_true_eq_false, not_false_eq_true, reduceCtorEq, Nat.reduceAdd, Nat.zero_add, Int.cast_ofNat_Int, beq_self_eq_true, decide_true, decide_false])
theorem eq_nilX {xs : List D} {Q : Bool → Prop} {E : Xn → Prop} (h : ∀ x ∈ xs, pyB x = true) (q : Q xs.isEmpty) : eqM (.lst xs) (.lst []) Q E := by
  cases hp : pyL xs with
  | some ps =>
    refine eq_nilL ?_ q
    have : ∀ {xs : List D} {ps : List PyData}, pyL xs = some ps → (∀ x ∈ xs, pyB x = true) → pyOk xs := by
      intro xs
      induction xs with
      | nil => intro ps _ _ d hd; cases hd
      | cons x xs ih =>
        intro ps e h
        simp only [pyL] at e
        split at e
        · rename_i p ps' e1 e2
          intro d hd
          rcases List.mem_cons.mp hd with rfl | hd
          · have := h d List.mem_cons_self
            unfold pyB at this
            rw [e1] at this
            have this : (p.canLay0 && decide (p.depth ≤ 10)) = true := this
            rw [Bool.and_eq_true, decide_eq_true_eq] at this
            exact ⟨p, e1, this.1, by omega⟩
          · exact ih e2 (fun x hx => h x (List.mem_cons_of_mem _ hx)) d hd
        · cases e
    exact this hp h
  | none =>
    unfold eqM
    simp only [fl, D.py, hp, pyL, Option.map_none, Option.map_some]
    cases xs with
    | nil => cases hp
    | cons x xs => exact ⟨by simp, q⟩
theorem repr_bl3 (a b c : Bool) {Q : D × Bool → Prop} {E : Xn → Prop} (q : Q (.str (PyData.shown (.list [.bool a, .bool b, .bool c])), false)) : reprM [.lst [.bl a, .bl b, .bl c]] Q E := by
  refine ⟨rfl, rfl, ?_, by cases a <;> cases b <;> cases c <;> decide +kernel, q⟩
  have : (PyData.shown (.list [.bool a, .bool b, .bool c])).length ≤ 100 := by
    cases a <;> cases b <;> cases c <;> decide +kernel
  exact Nat.le_trans this (by decide)
theorem repr_bl1 (a : Bool) {Q : D × Bool → Prop} {E : Xn → Prop} (q : Q (.str (PyData.shown (.bool a)), false)) : reprM [.bl a] Q E := by
  refine ⟨rfl, rfl, ?_, by cases a <;> decide +kernel, q⟩
  have : (PyData.shown (.bool a)).length ≤ 100 := by cases a <;> decide +kernel
  exact Nat.le_trans this (by decide)
theorem int_len {i : Int} (h : i.natAbs < 10 ^ 19) : (PyData.shown (.int i)).length ≤ 21 := by
  have e := PySem.int_text_length_le10 (a := i) (k := 20) (by decide) (Nat.lt_trans h (by decide))
  show (Str.ofString (toString i)).length ≤ 21
  rw [PySem.ofString_length]
  exact e
theorem int_log {i : Int} (h : i.natAbs < 10 ^ 19) : i.natAbs.log2 < 1920 := by
  by_cases h0 : i.natAbs = 0
  · rw [h0]; decide
  · rw [Nat.log2_lt h0]
    exact Nat.lt_trans h (Nat.lt_of_lt_of_le (by decide : 10 ^ 19 < 2 ^ 64) (Nat.pow_le_pow_right (by decide) (by decide)))
structure Shw (p : PyData) : Prop where
  lay : p.canLay0 = true
  sho : p.showable = true
  lea : p.leavesShort 21 = true
  blk : p.bulk ≤ 1000
  dep : p.depth ≤ 0
theorem scal_shw {d : D} (w : w1B d = true) (h : scalB d = true) : ∃ p, d.py = some p ∧ Shw p := by
  cases d with
  | str s =>
    obtain ⟨h1, h2⟩ := w1_str2 w
    refine ⟨_, rfl, h2, rfl, ?_, h1, Nat.zero_le _⟩
    unfold PyData.strOk at h2
    rw [← Array.all_toList, List.all_eq_true] at h2
    show (s.cps.toList.all fun c => decide (c < 16 ^ 8)) = true
    rw [List.all_eq_true]
    intro c hc
    have := of_decide_eq_true (h2 c hc)
    exact decide_eq_true (by omega)
  | non => exact ⟨_, rfl, rfl, rfl, rfl, Nat.zero_le _, Nat.zero_le _⟩
  | int i =>
    rw [scal_int, Bool.and_eq_true, decide_eq_true_eq, decide_eq_true_eq] at h
    have hi : i.natAbs < 10 ^ 19 := by
      have : (10 : Nat) ^ 19 = 10000000000000000000 := by decide
      omega
    refine ⟨_, rfl, rfl, ?_, ?_, Nat.zero_le _, Nat.zero_le _⟩
    · simp only [PyData.showable, decide_eq_true_eq]
      exact int_log hi
    · simp only [PyData.leavesShort, decide_eq_true_eq]
      exact int_len hi
  | _ => cases h
theorem scals_shw : ∀ {ds : List D}, (∀ x ∈ ds, w1B x = true) → ds.all scalB = true → ∃ ps, pyL ds = some ps ∧ ps.length = ds.length ∧ PyData.canLayAll0 ps = true ∧ PyData.showableAll ps = true ∧ PyData.leavesShortAll 21 ps = true ∧ PyData.bulkAll ps ≤ 1001 * ds.length ∧ PyData.depthAll ps ≤ 0
  | [], _, _ => ⟨[], rfl, rfl, rfl, rfl, rfl, Nat.zero_le _, Nat.le_refl _⟩
  | d :: ds, w, h => by
    rw [List.all_cons, Bool.and_eq_true] at h
    obtain ⟨p, e1, s⟩ := scal_shw (w d List.mem_cons_self) h.1
    obtain ⟨ps, e2, l2, a, b, c, f, g⟩ := scals_shw (ds := ds) (fun x hx => w x (List.mem_cons_of_mem _ hx)) h.2
    refine ⟨p :: ps, by simp only [pyL, e1, e2], by rw [List.length_cons, List.length_cons, l2], ?_, ?_, ?_, ?_, ?_⟩
    · rw [PyData.canLayAll0, s.lay, a]; rfl
    · rw [PyData.showableAll, s.sho, b]; rfl
    · rw [PyData.leavesShortAll, s.lea, c]; rfl
    · rw [PyData.bulkAll, List.length_cons]
      have := s.blk
      omega
    · rw [PyData.depthAll]
      exact Nat.max_le.mpr ⟨s.dep, g⟩
/-- the texts of the values that are not true -/
def noT (z : Str) : Bool := ((["0", "''", "()"] : List Str).any fun y => y == z)
theorem noT_long {z : Str} (h : 3 ≤ z.length) : noT z = false := by
  unfold noT
  rw [List.any_eq_false]
  intro y hy e
  have e : y = z := by simpa using e
  subst e
  simp only [List.mem_cons, List.not_mem_nil, or_false] at hy
  rcases hy with rfl | rfl | rfl
  · exact absurd h (by decide +kernel)
  · exact absurd h (by decide +kernel)
  · exact absurd h (by decide +kernel)
theorem reprChar_pos (q c : Nat) : 1 ≤ (Builtin.Str.reprChar q c).length := by
  unfold Builtin.Str.reprChar
  dsimp only
  split
  · exact Nat.le_add_left 1 1
  split
  · exact Nat.le_add_left 1 1
  split
  · exact Nat.le_add_left 1 1
  split
  · exact Nat.le_add_left 1 1
  split
  · exact Nat.le_refl 1
  split
  · rw [List.length_append]; show 1 ≤ 2 + _; omega
  split
  · rw [List.length_append]; show 1 ≤ 2 + _; omega
  · rw [List.length_append]; show 1 ≤ 2 + _; omega
theorem str_noT (s : Str) : noT (PyData.shown (.str s)) = (s == ("" : Str)) := by
  by_cases h : s.cps.size = 0
  · have e : s = ("" : Str) := by
      have : s.cps = #[] := Array.eq_empty_of_size_eq_zero h
      cases s
      subst this
      decide +kernel
    subst e
    decide +kernel
  · have hne : (s == ("" : Str)) = false := by
      rw [beq_eq_false_iff_ne]
      intro e
      subst e
      exact h (by decide +kernel)
    rw [hne]
    refine noT_long ?_
    show 3 ≤ (reprText s).length
    rw [← reprLen_eq, ← Array.foldl_toList]
    have : ∀ (l : List Nat) (n : Nat), n + l.length ≤ l.foldl (fun n c => n + (Builtin.Str.reprChar (reprQuote s) c).length) n := by
      intro l
      induction l with
      | nil => intro n; exact Nat.le_refl _
      | cons c l ih =>
        intro n
        rw [List.foldl_cons, List.length_cons]
        have h1 := ih (n + (Builtin.Str.reprChar (reprQuote s) c).length)
        have h2 := reprChar_pos (reprQuote s) c
        omega
    have h1 := this s.cps.toList 2
    rw [Array.length_toList] at h1
    omega
theorem tup_noT (ps : List PyData) : noT (PyData.shown (.tuple ps)) = ps.isEmpty := by
  cases ps with
  | nil => decide +kernel
  | cons p ps =>
    show noT (tupleText (PyData.shownAll (p :: ps))) = false
    refine noT_long ?_
    rw [show PyData.shownAll (p :: ps) = PyData.shown p :: PyData.shownAll ps from by rw [PyData.shownAll]]
    unfold tupleText
    have l1 : ∀ a b : Str, (a ++ b).length = a.length + b.length := fun a b => Str.length_append a b
    have lp : (("(" : String) : Str).length = 1 := by decide +kernel
    cases hq : PyData.shownAll ps with
    | nil =>
      rw [l1, l1, lp]
      have : ((if ([PyData.shown p].length == 1) = true then ",)" else ")" : String) : Str).length = 2 := by
        show ((",)" : String) : Str).length = 2
        decide +kernel
      rw [this]
      omega
    | cons t ts =>
      rw [l1, l1, lp, PyProof.Rows.join_cons_cons, l1, l1]
      have ls : ((", " : String) : Str).length = 2 := by decide +kernel
      rw [ls]
      omega
theorem int_noT (i : Int) : noT (PyData.shown (.int i)) = (i == 0) := by
  by_cases h : i = 0
  · subst h; decide +kernel
  · have hne : (i == 0) = false := by simpa using h
    rw [hne]
    unfold noT
    rw [List.any_eq_false]
    intro y hy e
    have e : y = PyData.shown (.int i) := by simpa using e
    simp only [List.mem_cons, List.not_mem_nil, or_false] at hy
    rcases hy with rfl | rfl | rfl
    · have e2 : (toString i).toList = ['0'] := by
        have h1 := congrArg (fun z : Str => z.cps.toList) e
        have h2 : (PyData.shown (.int i)).cps.toList = (toString i).toList.map Char.toNat := PyProof.Rows.signs_ofString (toString i)
        have h3 : (Str.ofString "0").cps.toList = [48] := by decide +kernel
        rw [h2, h3] at h1
        have h1 : [48] = (toString i).toList.map Char.toNat := h1
        cases hl : (toString i).toList with
        | nil => rw [hl] at h1; cases h1
        | cons c cs =>
          rw [hl, List.map_cons] at h1
          obtain ⟨a, b⟩ := List.cons.inj h1
          have hcs : cs = [] := by
            cases cs with
            | nil => rfl
            | cons _ _ => cases b
          subst hcs
          have hc : c = '0' := by
            have hd := PyProof.Rows.int_sign i c (by rw [hl]; exact List.mem_cons_self)
            apply Char.ext
            apply UInt32.toNat_inj.mp
            exact a.symm
          rw [hc]
      rw [Int.toString_eq_repr, Int.repr_eq_if] at e2
      split at e2
      · rename_i h0
        rw [Nat.toList_repr] at e2
        have : i.toNat = 0 := by
          rw [Nat.toDigits_eq_if (by decide)] at e2
          split at e2
          · have := (List.cons.inj e2).1
            exact Nat.digitChar_eq_zero.mp this
          · rename_i hb
            exfalso
            have hl := congrArg List.length e2
            rw [List.length_append] at hl
            have hp := List.length_pos_iff.mpr (Nat.toDigits_ne_nil (n := i.toNat / 10) (b := 10))
            simp only [List.length_cons, List.length_nil] at hl
            omega
        omega
      · rw [String.toList_append] at e2
        have : ("-" : String).toList = ['-'] := by decide
        rw [this] at e2
        have := (List.cons.inj e2).1
        exact absurd this (by decide)
    · have h39 : 39 ∈ (PyData.shown (.int i)).cps.toList := by rw [← e]; decide +kernel
      exact PyProof.Rows.shown_int_free' ⟨by decide, .inl (by decide)⟩ i h39
    · have h40 : 40 ∈ (PyData.shown (.int i)).cps.toList := by rw [← e]; decide +kernel
      exact PyProof.Rows.shown_int_free' ⟨by decide, .inl (by decide)⟩ i h40
theorem val_repr {d : D} (w : wB d = true) (v : valB d = true) (hn : d ≠ .non) : ∃ p, d.py = some p ∧ p.canLay0 = true ∧ p.showable = true ∧ p.shown.length ≤ sizeLine ∧ p.depth ≤ 100 ∧ noT p.shown = !trueB d := by
  have sc : ∀ d, w1B d = true → scalB d = true → ∃ p, d.py = some p ∧ p.canLay0 = true ∧ p.showable = true ∧ p.shown.length ≤ sizeLine ∧ p.depth ≤ 100 := fun d w h => by
    obtain ⟨p, e, s⟩ := scal_shw w h
    have hl := PyData.shown_le_bulk 21 (by decide) p s.lea
    have hb := s.blk
    have hd := s.dep
    exact ⟨p, e, s.lay, s.sho, by rw [sizeLine_eq]; omega, by omega⟩
  cases d with
  | non => exact absurd rfl hn
  | str s =>
    obtain ⟨p, e, a, b, c, f⟩ := sc _ (wB1 w) v
    cases e
    refine ⟨_, rfl, a, b, c, f, ?_⟩
    rw [str_noT]
    show (s == ("" : Str)) = !(s != ("" : Str))
    unfold bne
    rw [Bool.not_not]
  | int i =>
    obtain ⟨p, e, a, b, c, f⟩ := sc _ (wB1 w) v
    cases e
    refine ⟨_, rfl, a, b, c, f, ?_⟩
    rw [int_noT]
    show (i == 0) = !(i != 0)
    unfold bne
    rw [Bool.not_not]
  | tup ds =>
    rw [val_tup, Bool.and_eq_true, decide_eq_true_eq] at v
    obtain ⟨ps, e, l, a, b, c, f, g⟩ := scals_shw (wB_tup w).2 v.2
    have hl := PyData.shown_le_bulk 21 (by decide) (.tuple ps) (by rw [PyData.leavesShort]; exact c)
    rw [PyData.bulk] at hl
    have h20 := v.1
    refine ⟨.tuple ps, by simp only [D.py, e, Option.map_some], by rw [PyData.canLay0]; exact a, by rw [PyData.showable]; exact b, by rw [sizeLine_eq]; omega, by rw [PyData.depth]; omega, ?_⟩
    rw [tup_noT]
    show ps.isEmpty = !(!ds.isEmpty)
    rw [Bool.not_not]
    cases ps <;> cases ds <;> first | rfl | cases l
  | _ => cases v
theorem p__law_right : ∀ ds QD ED, m__law_right ds QD ED → c__law_right (startE N__law_right ds) { nx := fun _ => QD .non, rt := fun d _ => QD d } ED := by
  intro ds QD ED h
  unfold m__law_right at h
  split at h
  · rename_i d
    obtain ⟨w, h⟩ := h
    show c__law_right [.sh d, .no, .no, .no, .no] _ ED
    have w1 := wB1 w
    -- behind the first look
    have rest : ∀ c2 : Cell, restC
        [.sh d, .sh (.bl (valB d)), c2, .no, .no] { nx := fun _ => QD .non, rt := fun d _ => QD d } ED := fun c2 => by
      have e1 : ∀ Q : D → Prop, Q (.bl (nameB d)) → m_is_name [d] Q ED := fun Q q => ⟨w1, q⟩
      have e2 : ∀ Q : D → Prop, Q (.bl (scalB d)) → m_is_scalar [d] Q ED := fun Q q => ⟨w1, q⟩
      have e3 : ∀ Q : D → Prop, Q (.bl (valB d)) → m_is_value [d] Q ED := fun Q q => ⟨w, q⟩
      unfold restC
      walk_at "dl0"
      refine e1 _ ?_
      refine ⟨rfl, e2 _ ?_⟩
      refine e3 _ ?_
      refine (show _ ∧ _ from ⟨by show 3 ≤ sizeLine; decide, ?_⟩)
      refine repr_bl3 _ _ _ ?_
      refine e1 _ ?_
      refine e2 _ ?_
      refine (show _ ∧ _ from ⟨by show 3 ≤ sizeLine; decide, ?_⟩)
      refine repr_bl3 _ _ _ ?_
      show (if (!(PyData.shown _ == PyData.shown _)) = true then _ else _)
      rw [beq_self_eq_true, if_neg (by decide)]
      cases hv : valB d with
      | false => exact h
      | true =>
        have e4 : ∀ Q : D → Prop, Q (.bl (trueB d)) → m_is_true [d] Q ED := fun Q q => ⟨w, hv, q⟩
        have fin : ∀ t : Bool, t = trueB d → m_is_true [d] (fun d => reprM [d] (fun a1 => reprM [.bl t] (fun a => eqM a1.1 a.1 (fun a => QD (.bl a)) ED) ED) ED) ED := fun t ht => by
          subst ht
          refine e4 _ ?_
          refine repr_bl1 _ ?_
          refine repr_bl1 _ ?_
          show QD (.bl (PyData.shown _ == PyData.shown _))
          rw [beq_self_eq_true]; exact h
        by_cases hn : d = .non
        · subst hn
          rw [if_neg (by decide)]
          walk_at "dl0"
          exact fin false rfl
        · obtain ⟨p, ep, p1, p2, p3, p4, p5⟩ := val_repr w hv hn
          have er : ∀ Q : D × Bool → Prop, Q (.str p.shown, false) → reprM [d] Q ED := fun Q q => by
            show match d.py with | some p => p.canLay0 = true ∧ p.showable = true ∧ p.shown.length ≤ sizeLine ∧ p.depth ≤ 100 ∧ Q (.str p.shown, false) | none => False
            rw [ep]
            exact ⟨p1, p2, p3, p4, q⟩
          have en : ∀ Q : Bool → Prop, Q false → isNon d Q ED := fun Q q => by
            cases d <;> first | exact q | exact absurd rfl hn | cases w1
          rw [if_neg (by decide)]
          refine en _ ?_
          rw [if_neg (by decide)]
          dsimp only [ret, bnd]
          refine er _ ?_
          refine (show _ ∧ _ from ⟨by show 3 ≤ sizeLine; decide, ?_⟩)
          have hin : ∀ Q : Bool → Prop, Q (noT p.shown) → cmpM .In (.str p.shown) (.tup [.str "0", .str "''", .str "()"]) Q ED := fun Q q => q
          refine hin _ ?_
          rw [p5]
          exact fin (!(!trueB d)) (Bool.not_not _)
    unfold c__law_right
    refine ⟨rfl, w1, ?_⟩
    cases d with
    | tup ds =>
      obtain ⟨hl, hw⟩ := wB_tup2 w
      have el : ∀ Q : D × Bool → Prop, Q (.bl (valB (.tup ds)), false) → (cAnd (vT (tCm .Lt (frz (cB lenM (cCons (bVar 0) (cNil)))) (frz (cC (.int 21))))) (vT (tCm .Eq (frz (cLc [2] (iSeq (frz (cVar 0))) (gNm 2) (tNo (tTru (frz (cCall 1 m__law_is_scalar (cCons (frz (cVar 2)) (cNil)))))) (frz (cVar 2)))) (frz (cLst (cNil)))))) [.sh (.tup ds), .sh (.bl (scalB (.tup ds))), .no, .no, .no] Q ED := fun Q q => by
        walk_at "dl0"
        rw [val_tup] at q
        by_cases h1 : (ds.length : Int) ≤ 20
        · have h1' : (ds.length : Int) < 21 := by omega
          rw [decide_eq_true h1, Bool.true_and] at q
          rw [decide_eq_true h1']
          walk_at "dl0"
          refine ⟨by rw [sizeLine_eq]; omega, ?_⟩
          refine lc_fun (fun x => [.sh (.tup ds), .sh (.bl (scalB (.tup ds))), .sh x, .no, .no]) (fun x => !scalB x) (fun x => x) (fun x _ Q q => q) (fun x hx Q q => ⟨rfl, (hw x hx).1, q⟩) (fun x _ _ Q q => q) ?_
          refine (show _ ∧ _ from ⟨by decide, ?_⟩)
          rw [List.map_id']
          refine eq_nilX (fun x hx => (hw x (List.mem_filter.mp hx).1).2) ?_
          have e3 : (ds.filter fun x => !scalB x).isEmpty = ds.all scalB := by
            rw [Bool.eq_iff_iff, List.isEmpty_iff, List.filter_eq_nil_iff, List.all_eq_true]
            constructor
            · intro q c hc
              have := q c hc
              simpa using this
            · intro q c hc
              rw [q c hc]
              simp
          rw [e3]
          exact q
        · have h1' : ¬ (ds.length : Int) < 21 := by omega
          rw [decide_eq_false h1, Bool.false_and] at q
          rw [decide_eq_false h1']
          exact q
      exact el _ (rest .no)
    | obj _ _ => cases w1
    | raw _ => cases w1
    | gen => cases w1
    | scr _ => cases w1
    | _ => exact rest .no
  · exact h.elim

end DL.K01

namespace DL.K01
open PySem L2
local macro_rules | `(tactic| walk_at "dl") => `(tactic| simp only [ret, fail, bnd, frz, cC, cVar, bVar, cBin, cNeg, cNot, cAnd, cOr, cIf, vT, tCm, tCh, tTru, tNo, tAn, tOr', cNil, cCons, cTup, cLst, cIx, oNo, oIs, cSl, cCall, callD, cCallK, cB, sNil, sSeq, sDrop, sSet, sAsg, sPar, sRet, sRetN, sIf, sBrk, sCnt, sNo, sFor, sFrz, sApp, sPut, sSetU, uOf, uPop, uPopAt, isOwL, sAdopt,
  gNm, gTp, gsCons, gsNil, tYesD, cLc, iSeq, iRng, iEn, cIsi, cLRg, cBest, cSrtSet, cRev, iZp, cCallF, cCallKF, callF, sRetO, sRetF, tLend, frzE, cDct, prM, cJoin, cel, rgsM, len_lst, len_tup, len_dct, len_str, abs_int, list_lst, list_tup, tuple_lst, tuple_tup, items_lst, items_tup, items_str, enum_lst, enum_tup,
  bin_addI, bin_subI, bin_mulI, bin_divI, bin_modI, bin_powI, bin_addS, bin_addL, bin_addT, bin_mulL, bin_mulT, bin_mulS, cmp_eq, cmp_ne, cmp_lt, cmp_le, cmp_gt, cmp_ge, cmp_is, cmp_isnt, cmp_inS, cmp_ninS, eq_int, eq_str, ix_lst, ix_tup, tru_bl, tru_lst, tru_tup, tru_int, tru_non, non_non, non_int, non_str, non_bl, non_lst, non_tup, at_zero, at_one, at_two,
  isi_non, isi_bl, isi_int, isi_str, isi_lst, isi_tup, isi_dct, sub_tab, List.any_cons, List.any_nil, Bool.or_false, Bool.or_true, Bool.true_or, Bool.false_or, Bool.not_true, Bool.not_false,
  List.getElem?_cons_zero, List.getElem?_cons_succ, List.set_cons_zero, List.set_cons_succ, Bool.false_and, Bool.true_and, Bool.and_false, Bool.and_true, Bool.false_eq_true, if_true, if_false, ite_true, ite_false, List.length_cons, List.length_nil, List.length_map, true_and, and_true, ne_eq, not_true_eq_false, not_false_eq_true, reduceCtorEq, Nat.reduceAdd, Nat.zero_add, Int.cast_ofNat_Int, beq_self_eq_true, decide_true, decide_false, *])
local macro_rules | `(tactic| walk_at "dl0") => `(tactic| simp only [ret, fail, bnd, frz, cC, cVar, bVar, cBin, cNeg, cNot, cAnd, cOr, cIf, vT, tCm, tCh, tTru, tNo, tAn, tOr', cNil, cCons, cTup, cLst, cIx, oNo, oIs, cSl, cCall, callD, cCallK, cB, sNil, sSeq, sDrop, sSet, sAsg, sPar, sRet, sRetN, sIf, sBrk, sCnt, sNo, sFor, sFrz, sApp, sPut, sSetU, uOf, uPop, uPopAt, isOwL, sAdopt,
  gNm, gTp, gsCons, gsNil, tYesD, cLc, iSeq, iRng, iEn, cIsi, cLRg, cBest, cSrtSet, cRev, iZp, cCallF, cCallKF, callF, sRetO, sRetF, tLend, frzE, cDct, prM, cJoin, cel, rgsM, len_lst, len_tup, len_dct, len_str, abs_int, list_lst, list_tup, tuple_lst, tuple_tup, items_lst, items_tup, items_str, enum_lst, enum_tup,
  bin_addI, bin_subI, bin_mulI, bin_divI, bin_modI, bin_powI, bin_addS, bin_addL, bin_addT, bin_mulL, bin_mulT, bin_mulS, cmp_eq, cmp_ne, cmp_lt, cmp_le, cmp_gt, cmp_ge, cmp_is, cmp_isnt, cmp_inS, cmp_ninS, eq_int, eq_str, ix_lst, ix_tup, tru_bl, tru_lst, tru_tup, tru_int, tru_non, non_non, non_int, non_str, non_bl, non_lst, non_tup, at_zero, at_one, at_two,
  isi_non, isi_bl, isi_int, isi_str, isi_lst, isi_tup, isi_dct, sub_tab, List.any_cons, List.any_nil, Bool.or_false, Bool.or_true, Bool.true_or, Bool.false_or, Bool.not_true, Bool.not_false,
  List.getElem?_cons_zero, List.getElem?_cons_succ, List.set_cons_zero, List.set_cons_succ, Bool.false_and, Bool.true_and, Bool.and_false, Bool.and_true, Bool.false_eq_true, if_true, if_false, ite_true, ite_false, List.length_cons, List.length_nil, List.length_map, true_and, and_true, ne_eq, not_true_eq_false, not_false_eq_true, reduceCtorEq, Nat.reduceAdd, Nat.zero_add, Int.cast_ofNat_Int, beq_self_eq_true, decide_true, decide_false])
theorem py_tup {ds : List D} (h : ∀ x ∈ ds, pyB x = true) : True := trivial
theorem wB_int (i : Int) : wB (.int i) = true := rfl
theorem wB_str {s : Str} (h1 : s.length ≤ 1000) (h2 : PyData.strOk s = true) : wB (.str s) = true := by
  show (true && (decide (s.length ≤ 1000) && PyData.strOk s) && true) = true
  rw [decide_eq_true h1, h2]
  rfl
theorem strOk_app {a b : Str} (ha : PyData.strOk a = true) (hb : PyData.strOk b = true) : PyData.strOk (a ++ b) = true := by
  unfold PyData.strOk at ha hb ⊢
  rw [← Array.all_toList, List.all_eq_true] at ha hb ⊢
  intro c hc
  rcases PyProof.Rows.mem_cps_append.mp hc with h | h
  · exact ha c h
  · exact hb c h
theorem p_law : ∀ ds QD ED, lawM ds QD ED → c_law (startE N_law ds) { nx := fun _ => QD .non, rt := fun d _ => QD d } ED := by
  intro ds QD ED h
  unfold lawM at h
  split at h
  · rename_i ns
    show c_law [.sh (.scr ns), .no, .no, .no, .no, .no, .no, .no] _ ED
    unfold c_law sSeq
    refine ⟨rfl, ?_⟩
    show (_ ∧ _) ∧ _
    refine ⟨⟨by decide, by decide⟩, ?_⟩
    refine for_inv (k := 0) (fun _ ρ => ∃ c2 c3 c4 c5 c6 c7 : Cell, ρ = [.sh (.scr ns), .sh .gen, c2, c3, c4, c5, c6, c7]) ⟨_, _, _, _, _, _, rfl⟩ ?_ ?_
    · rintro i x ρ nx hx ⟨c2, c3, c4, c5, c6, c7, rfl⟩ hn
      have hnx : ∀ c2 c3 c4 c5 c6 c7 : Cell, nx [.sh (.scr ns), .sh .gen, c2, c3, c4, c5, c6, c7] := fun c2 c3 c4 c5 c6 c7 => hn _ ⟨c2, c3, c4, c5, c6, c7, rfl⟩
      clear hn h
      refine ⟨rfl, fun t wt pt => ?_⟩
      refine ⟨rfl, ⟨by decide, by decide⟩, fun n n0 n1 => ?_⟩
      refine (show _ ∧ _ from ⟨⟨by omega, by omega⟩, ?_⟩)
      refine (show _ ∧ _ from ⟨by rw [upto_len, sizeLine_eq]; omega, ?_⟩)
      refine lc_rel (fun y => [.sh (.scr ns), .sh .gen, .sh x, .sh t, c4, .sh y, c6, c7]) (fun _ => true) (fun _ y => wB y = true ∧ pyB y = true) (fun y _ Q q => q) (fun y _ Q q => q) (fun y _ _ Q q => ⟨rfl, fun d wd pd => q d ⟨wd, pd⟩⟩) (fun rs hr => ?_)
      rw [List.filter_eq_self.mpr fun _ _ => rfl] at hr
      have hrs : rs.length ≤ 4 ∧ ∀ y ∈ rs, wB y = true ∧ pyB y = true := by
        have : ∀ {ds rs : List D}, Paired (fun _ y => wB y = true ∧ pyB y = true) ds rs → rs.length = ds.length ∧ ∀ y ∈ rs, wB y = true ∧ pyB y = true := by
          intro ds rs hp
          induction hp with
          | nil => exact ⟨rfl, fun y hy => by cases hy⟩
          | cons p t ih =>
            refine ⟨by rw [List.length_cons, List.length_cons, ih.1], fun y hy => ?_⟩
            rcases List.mem_cons.mp hy with rfl | hy
            · exact p
            · exact ih.2 y hy
        obtain ⟨h1, h2⟩ := this hr
        rw [upto_len] at h1
        exact ⟨by omega, h2⟩
      refine ⟨rfl, fun s1 l1 o1 => ⟨rfl, fun s2 l2 o2 => ?_⟩⟩
      have lnl : (Str.ofString "\n").length = 1 := by decide +kernel
      refine (show _ ∧ _ from ⟨by rw [lnl, sizeLine_eq]; omega, ?_⟩)
      refine (show _ ∧ _ from ⟨by show 1 ≤ sizeLine; decide, ?_⟩)
      refine (show _ ∧ _ from ⟨by show 5 ≤ sizeLine; decide, ?_⟩)
      refine (show _ ∧ _ from ⟨by unfold CPow; decide +kernel, ?_⟩)
      refine ⟨rfl, ⟨by decide, by decide⟩, fun m m0 m1 => ?_⟩
      refine (show _ ∧ _ from ⟨by show 1 ≤ sizeLine; decide, ?_⟩)
      refine ⟨by simp, by decide, by decide, by show 1 ≤ 1000; decide, ?_⟩
      refine (show _ ∧ _ from ⟨by show 2 ≤ sizeLine; decide, ?_⟩)
      refine (show _ ∧ _ from ⟨by show 3 ≤ sizeLine; decide, ?_⟩)
      refine (show _ ∧ _ from ⟨by show 5 + 3 ≤ sizeLine; decide, ?_⟩)
      have wt1 : wB (.tup [t]) = true := wB_mk (by show 1 ≤ 1000; decide) fun y hy => by rw [List.mem_singleton] at hy; subst hy; exact ⟨wt, pt⟩
      have all : ∀ y ∈ [t, .str s1, .str (s2 ++ Str.ofString "\n"), .tup [t], .tup rs] ++ [.int ((10 : Int) ^ (18 : Int).toNat - m), .tup (List.replicate (20 : Int).toNat [t]).flatten, .tup [.int 0, t]], wB y = true := fun y hy => by
        simp only [List.cons_append, List.nil_append, List.mem_cons, List.not_mem_nil, or_false] at hy
        rcases hy with rfl | rfl | rfl | rfl | rfl | rfl | rfl | rfl
        · exact wt
        · exact wB_str (by omega) o1
        · exact wB_str (by rw [Str.length_append, lnl]; omega) (strOk_app o2 (by decide +kernel))
        · exact wt1
        · exact wB_mk (by omega) hrs.2
        · exact wB_int _
        · have e : (List.replicate (20 : Int).toNat [t]).flatten = List.replicate 20 t := rfl
          rw [e]
          exact wB_mk (by rw [List.length_replicate]; decide) fun y hy => by rw [List.eq_of_mem_replicate hy]; exact ⟨wt, pt⟩
        · refine wB_mk (by show 2 ≤ 1000; decide) fun y hy => ?_
          simp only [List.mem_cons, List.not_mem_nil, or_false] at hy
          rcases hy with rfl | rfl
          · exact ⟨rfl, rfl⟩
          · exact ⟨wt, pt⟩
      refine for_inv (k := 0) (fun _ ρ => ∃ c2 c3 c4 c5 c6 c7 : Cell, ρ = [.sh (.scr ns), .sh .gen, c2, c3, c4, c5, c6, c7]) ⟨_, _, _, _, _, _, rfl⟩ ?_ ?_
      · rintro j y ρ nx2 hy ⟨c2, c3, c4, c5, c6, c7, rfl⟩ hn
        have wy := all y (List.mem_of_getElem? hy)
        refine ⟨rfl, wy, ?_⟩
        exact hn _ ⟨_, _, _, _, _, _, rfl⟩
      · rintro ρ ⟨c2, c3, c4, c5, c6, c7, rfl⟩
        exact hnx _ _ _ _ _ _
    · rintro ρ ⟨c2, c3, c4, c5, c6, c7, rfl⟩
      exact h
  · exact h.elim

end DL.K01

namespace DL.K01
open PySem L2

section
variable {P : Program} {w : World} {K : PySem.W.Frag} {mg : Str → Option Value} {base : Heap}
theorem glb0 (h : Free mg) {u0 : Tok} (k0 : mg "LETTERS" = some (.str "abcdefghijklmnopqrstuvwxyz" u0)) {u1 : Tok} (k1 : mg "LONGEST_NAME" = some (.int 8 u1)) {u2 : Tok} (k2 : mg "LONGEST_STRING" = some (.int 60 u2)) {u3 : Tok} (k3 : mg "MOST_SCALARS" = some (.int 20 u3)) {u4 : Tok} (k4 : mg "GREATEST" = some (.int 1000000000000000000 u4)) {u5_0 u5_1 u5_2 u5_3 u5_4 : Tok} {r5 : Addr} {ro5 : Option Addr} {rs5 : Array (Option Value)} {rn5 : Nat} (k5 : mg "RESERVED" = some (.ref r5)) (tk5 : K.lookup r5 = some ⟨.type "tuple", ro5, .seq #[.str "input" u5_0, .str "kind" u5_1, .str "mark" u5_2, .str "open" u5_3, .str "self" u5_4] rn5, rs5⟩) : GlB P w K mg base 0 gl0 := by
  obtain ⟨h0, h1, h2, h3, h4, h5, h6, h7, h8, h9, h10⟩ := h
  exact GlB.cons ⟨h0, (by kernel_rfl), by decide, fun _ _ _ _ => b_abs⟩ (GlB.cons ⟨h1, (by kernel_rfl), by decide, fun _ hc _ _ => b_all hc⟩ (GlB.cons ⟨h2, (by kernel_rfl), by decide, fun _ _ _ _ => b_no⟩ (GlB.cons ⟨h3, (by kernel_rfl), by decide, fun _ _ _ _ => b_no⟩ (GlB.cons h4 (GlB.cons ⟨h5, (by kernel_rfl), by decide, fun _ _ _ _ => b_len⟩ (GlB.cons ⟨h6, (by kernel_rfl), by decide, fun _ _ _ _ => b_list⟩ (GlB.cons h7 (GlB.cons ⟨h8, (by kernel_rfl), by decide, fun _ _ gd hu => b_repr gd hu⟩ (GlB.cons ⟨h9, (by kernel_rfl), by decide, fun _ _ _ _ => b_no⟩ (GlB.cons ⟨h10, (by kernel_rfl), by decide, fun _ _ _ _ => b_tuple⟩ (GlB.cons ⟨.str "abcdefghijklmnopqrstuvwxyz", .str "abcdefghijklmnopqrstuvwxyz" _, k0, ⟨_, rfl⟩, fun _ => .str _⟩ (GlB.cons ⟨.int 8, .int 8 _, k1, ⟨_, rfl⟩, fun _ => .int _⟩ (GlB.cons ⟨.int 60, .int 60 _, k2, ⟨_, rfl⟩, fun _ => .int _⟩ (GlB.cons ⟨.int 20, .int 20 _, k3, ⟨_, rfl⟩, fun _ => .int _⟩ (GlB.cons ⟨.int 1000000000000000000, .int 1000000000000000000 _, k4, ⟨_, rfl⟩, fun _ => .int _⟩ (GlB.cons (GvB.strs (zs := ["input", "kind", "mark", "open", "self"]) k5 tk5 (by show 5 ≤ sizeLine; decide) (.cons ⟨_, rfl⟩ (.cons ⟨_, rfl⟩ (.cons ⟨_, rfl⟩ (.cons ⟨_, rfl⟩ (.cons ⟨_, rfl⟩ .nil)))))) GlB.nil (Nat.le_refl _)) (Nat.le_refl _)) (Nat.le_refl _)) (Nat.le_refl _)) (Nat.le_refl _)) (Nat.le_refl _)) (Nat.le_refl _)) (Nat.le_refl _)) (Nat.le_refl _)) (Nat.le_refl _)) (Nat.le_refl _)) (Nat.le_refl _)) (Nat.le_refl _)) (Nat.le_refl _)) (Nat.le_refl _)) (Nat.le_refl _)) (Nat.le_refl _)
theorem f_is_name {f : Addr} {fd : FuncData} (F : Fun K "is_name" "is_name" s_is_name f fd) (G : GlB P w K mg base 0 gl0) : FnG P w K mg base CX0 1 f fd ["value"] (SpM K 1 m_is_name) := def_ok rules2_ok (n := 40) F sc_is_name G e_is_name p_is_name
theorem glb_is_name {f : Addr} {fd : FuncData} (F : Fun K "is_name" "is_name" s_is_name f fd) (G : GlB P w K mg base 0 gl0) (hm : mg "is_name" = some (.ref f)) : GlB P w K mg base 1 gl_is_name :=
  GlB.cons (GvB.fun F hm (F.binds fun _ _ _ _ _ _ us hl => match us, hl with | [_], _ => rfl) (f_is_name F G) rfl (fun z hz => by cases hz)) G (Nat.le_succ _)
theorem f_is_integer {f : Addr} {fd : FuncData} (F : Fun K "is_integer" "is_integer" s_is_integer f fd) (G : GlB P w K mg base 1 gl_is_name) : FnG P w K mg base CX0 2 f fd ["value"] (SpM K 1 m_is_integer) := def_ok rules2_ok (n := 40) F sc_is_integer G e_is_integer p_is_integer
theorem glb_is_integer {f : Addr} {fd : FuncData} (F : Fun K "is_integer" "is_integer" s_is_integer f fd) (G : GlB P w K mg base 1 gl_is_name) (hm : mg "is_integer" = some (.ref f)) : GlB P w K mg base 2 gl_is_integer :=
  GlB.cons (GvB.fun F hm (F.binds fun _ _ _ _ _ _ us hl => match us, hl with | [_], _ => rfl) (f_is_integer F G) rfl (fun z hz => by cases hz)) G (Nat.le_succ _)
theorem f_is_scalar {f : Addr} {fd : FuncData} (F : Fun K "is_scalar" "is_scalar" s_is_scalar f fd) (G : GlB P w K mg base 2 gl_is_integer) : FnG P w K mg base CX0 3 f fd ["value"] (SpM K 1 m_is_scalar) := def_ok rules2_ok (n := 40) F sc_is_scalar G e_is_scalar p_is_scalar
theorem glb_is_scalar {f : Addr} {fd : FuncData} (F : Fun K "is_scalar" "is_scalar" s_is_scalar f fd) (G : GlB P w K mg base 2 gl_is_integer) (hm : mg "is_scalar" = some (.ref f)) : GlB P w K mg base 3 gl_is_scalar :=
  GlB.cons (GvB.fun F hm (F.binds fun _ _ _ _ _ _ us hl => match us, hl with | [_], _ => rfl) (f_is_scalar F G) rfl (fun z hz => by
    simp only [List.mem_cons, List.not_mem_nil, or_false] at hz
    subst hz
    exact Fun.kw F fun _ _ _ _ _ _ us ws hu hw => match us, ws, hu, hw with | [], [_], _, _ => rfl)) G (Nat.le_succ _)
theorem f_is_value {f : Addr} {fd : FuncData} (F : Fun K "is_value" "is_value" s_is_value f fd) (G : GlB P w K mg base 3 gl_is_scalar) : FnG P w K mg base CX0 4 f fd ["value"] (SpM K 1 m_is_value) := def_ok rules2_ok (n := 40) F sc_is_value G e_is_value p_is_value
theorem glb_is_value {f : Addr} {fd : FuncData} (F : Fun K "is_value" "is_value" s_is_value f fd) (G : GlB P w K mg base 3 gl_is_scalar) (hm : mg "is_value" = some (.ref f)) : GlB P w K mg base 4 gl_is_value :=
  GlB.cons (GvB.fun F hm (F.binds fun _ _ _ _ _ _ us hl => match us, hl with | [_], _ => rfl) (f_is_value F G) rfl (fun z hz => by cases hz)) G (Nat.le_succ _)
theorem f_is_true {f : Addr} {fd : FuncData} (F : Fun K "is_true" "is_true" s_is_true f fd) (G : GlB P w K mg base 4 gl_is_value) : FnG P w K mg base CX0 5 f fd ["value"] (SpM K 1 m_is_true) := def_ok rules2_ok (n := 40) F sc_is_true G e_is_true p_is_true
theorem glb_is_true {f : Addr} {fd : FuncData} (F : Fun K "is_true" "is_true" s_is_true f fd) (G : GlB P w K mg base 4 gl_is_value) (hm : mg "is_true" = some (.ref f)) : GlB P w K mg base 5 gl_is_true :=
  GlB.cons (GvB.fun F hm (F.binds fun _ _ _ _ _ _ us hl => match us, hl with | [_], _ => rfl) (f_is_true F G) rfl (fun z hz => by cases hz)) G (Nat.le_succ _)
theorem f__law_state {f : Addr} {fd : FuncData} (F : Fun K "_law_state" "_law_state" s__law_state f fd) (G : GlB P w K mg base 5 gl_is_true) : FnG P w K mg base CX0 6 f fd ["_law_script"] (SpM K 1 begunM) := begun_ok rules2_ok (n := 40) F sc__law_state G e__law_state p__law_state
theorem glb__law_state {f : Addr} {fd : FuncData} (F : Fun K "_law_state" "_law_state" s__law_state f fd) (G : GlB P w K mg base 5 gl_is_true) (hm : mg "_law_state" = some (.ref f)) : GlB P w K mg base 6 gl__law_state :=
  GlB.cons (GvB.fun F hm (F.binds fun _ _ _ _ _ _ us hl => match us, hl with | [_], _ => rfl) (f__law_state F G) rfl (fun z hz => by cases hz)) G (Nat.le_succ _)
theorem f__law_draw {f : Addr} {fd : FuncData} (F : Fun K "_law_draw" "_law_draw" s__law_draw f fd) (G : GlB P w K mg base 6 gl__law_state) : FnG P w K mg base CX0 7 f fd ["_law_draw_here", "_law_below"] (SpM K 2 drawM) := draw_ok rules2_ok (n := 40) F sc__law_draw rfl (by intro x hx; cases hx; decide +kernel) G (by decide +kernel) e__law_draw1 e__law_draw2 p__law_draw
theorem glb__law_draw {f : Addr} {fd : FuncData} (F : Fun K "_law_draw" "_law_draw" s__law_draw f fd) (G : GlB P w K mg base 6 gl__law_state) (hm : mg "_law_draw" = some (.ref f)) : GlB P w K mg base 7 gl__law_draw :=
  GlB.cons (GvB.fun F hm (F.binds fun _ _ _ _ _ _ us hl => match us, hl with | [_, _], _ => rfl) (f__law_draw F G) rfl (fun z hz => by cases hz)) G (Nat.le_succ _)
theorem f__law_pick {f : Addr} {fd : FuncData} (F : Fun K "_law_pick" "_law_pick" s__law_pick f fd) (G : GlB P w K mg base 7 gl__law_draw) : FnG P w K mg base CX0 8 f fd ["_law_draw_here", "_law_some"] (SpM K 2 m__law_pick) := def_ok rules2_ok (n := 40) F sc__law_pick G e__law_pick p__law_pick
theorem glb__law_pick {f : Addr} {fd : FuncData} (F : Fun K "_law_pick" "_law_pick" s__law_pick f fd) (G : GlB P w K mg base 7 gl__law_draw) (hm : mg "_law_pick" = some (.ref f)) : GlB P w K mg base 8 gl__law_pick :=
  GlB.cons (GvB.fun F hm (F.binds fun _ _ _ _ _ _ us hl => match us, hl with | [_, _], _ => rfl) (f__law_pick F G) rfl (fun z hz => by cases hz)) G (Nat.le_succ _)
theorem f__law_mixed {f : Addr} {fd : FuncData} (F : Fun K "_law_mixed" "_law_mixed" s__law_mixed f fd) (G : GlB P w K mg base 8 gl__law_pick) : FnG P w K mg base CX0 9 f fd ["_law_draw_here", "_law_some"] (SpM K 2 m__law_mixed) := def_ok rules2_ok (n := 40) F sc__law_mixed G e__law_mixed p__law_mixed
theorem glb__law_mixed {f : Addr} {fd : FuncData} (F : Fun K "_law_mixed" "_law_mixed" s__law_mixed f fd) (G : GlB P w K mg base 8 gl__law_pick) (hm : mg "_law_mixed" = some (.ref f)) : GlB P w K mg base 9 gl__law_mixed :=
  GlB.cons (GvB.fun F hm (F.binds fun _ _ _ _ _ _ us hl => match us, hl with | [_, _], _ => rfl) (f__law_mixed F G) rfl (fun z hz => by cases hz)) G (Nat.le_succ _)
theorem f__law_thing {f : Addr} {fd : FuncData} (F : Fun K "_law_thing" "_law_thing" s__law_thing f fd) (G : GlB P w K mg base 9 gl__law_mixed) : FnG P w K mg base CX0 10 f fd ["_law_draw_here"] (SpM K 1 m__law_thing) := def_ok rules2_ok (n := 40) F sc__law_thing G e__law_thing p__law_thing
theorem glb__law_thing {f : Addr} {fd : FuncData} (F : Fun K "_law_thing" "_law_thing" s__law_thing f fd) (G : GlB P w K mg base 9 gl__law_mixed) (hm : mg "_law_thing" = some (.ref f)) : GlB P w K mg base 10 gl__law_thing :=
  GlB.cons (GvB.fun F hm (F.binds fun _ _ _ _ _ _ us hl => match us, hl with | [_], _ => rfl) (f__law_thing F G) rfl (fun z hz => by cases hz)) G (Nat.le_succ _)
theorem f__law_is_integer {f : Addr} {fd : FuncData} (F : Fun K "_law_is_integer" "_law_is_integer" s__law_is_integer f fd) (G : GlB P w K mg base 10 gl__law_thing) : FnG P w K mg base CX0 11 f fd ["_law_thing_here"] (SpM K 1 m__law_is_integer) := def_ok rules2_ok (n := 40) F sc__law_is_integer G e__law_is_integer p__law_is_integer
theorem glb__law_is_integer {f : Addr} {fd : FuncData} (F : Fun K "_law_is_integer" "_law_is_integer" s__law_is_integer f fd) (G : GlB P w K mg base 10 gl__law_thing) (hm : mg "_law_is_integer" = some (.ref f)) : GlB P w K mg base 11 gl__law_is_integer :=
  GlB.cons (GvB.fun F hm (F.binds fun _ _ _ _ _ _ us hl => match us, hl with | [_], _ => rfl) (f__law_is_integer F G) rfl (fun z hz => by cases hz)) G (Nat.le_succ _)
theorem f__law_is_name {f : Addr} {fd : FuncData} (F : Fun K "_law_is_name" "_law_is_name" s__law_is_name f fd) (G : GlB P w K mg base 11 gl__law_is_integer) : FnG P w K mg base CX0 12 f fd ["_law_thing_here"] (SpM K 1 m__law_is_name) := def_ok rules2_ok (n := 40) F sc__law_is_name G e__law_is_name p__law_is_name
theorem glb__law_is_name {f : Addr} {fd : FuncData} (F : Fun K "_law_is_name" "_law_is_name" s__law_is_name f fd) (G : GlB P w K mg base 11 gl__law_is_integer) (hm : mg "_law_is_name" = some (.ref f)) : GlB P w K mg base 12 gl__law_is_name :=
  GlB.cons (GvB.fun F hm (F.binds fun _ _ _ _ _ _ us hl => match us, hl with | [_], _ => rfl) (f__law_is_name F G) rfl (fun z hz => by cases hz)) G (Nat.le_succ _)
theorem f__law_is_scalar {f : Addr} {fd : FuncData} (F : Fun K "_law_is_scalar" "_law_is_scalar" s__law_is_scalar f fd) (G : GlB P w K mg base 12 gl__law_is_name) : FnG P w K mg base CX0 13 f fd ["_law_thing_here"] (SpM K 1 m__law_is_scalar) := def_ok rules2_ok (n := 40) F sc__law_is_scalar G e__law_is_scalar p__law_is_scalar
theorem glb__law_is_scalar {f : Addr} {fd : FuncData} (F : Fun K "_law_is_scalar" "_law_is_scalar" s__law_is_scalar f fd) (G : GlB P w K mg base 12 gl__law_is_name) (hm : mg "_law_is_scalar" = some (.ref f)) : GlB P w K mg base 13 gl__law_is_scalar :=
  GlB.cons (GvB.fun F hm (F.binds fun _ _ _ _ _ _ us hl => match us, hl with | [_], _ => rfl) (f__law_is_scalar F G) rfl (fun z hz => by cases hz)) G (Nat.le_succ _)
theorem f__law_word {f : Addr} {fd : FuncData} (F : Fun K "_law_word" "_law_word" s__law_word f fd) (G : GlB P w K mg base 13 gl__law_is_scalar) : FnG P w K mg base CX0 14 f fd ["_law_draw_here"] (SpM K 1 m__law_word) := def_ok rules2_ok (n := 40) F sc__law_word G e__law_word p__law_word
theorem glb__law_word {f : Addr} {fd : FuncData} (F : Fun K "_law_word" "_law_word" s__law_word f fd) (G : GlB P w K mg base 13 gl__law_is_scalar) (hm : mg "_law_word" = some (.ref f)) : GlB P w K mg base 14 gl__law_word :=
  GlB.cons (GvB.fun F hm (F.binds fun _ _ _ _ _ _ us hl => match us, hl with | [_], _ => rfl) (f__law_word F G) rfl (fun z hz => by cases hz)) G (Nat.le_succ _)
theorem f__law_right {f : Addr} {fd : FuncData} (F : Fun K "_law_right" "_law_right" s__law_right f fd) (G : GlB P w K mg base 14 gl__law_word) : FnG P w K mg base CX0 15 f fd ["_law_thing_here"] (SpM K 1 m__law_right) := def_ok rules2_ok (n := 40) F sc__law_right G e__law_right p__law_right
theorem glb__law_right {f : Addr} {fd : FuncData} (F : Fun K "_law_right" "_law_right" s__law_right f fd) (G : GlB P w K mg base 14 gl__law_word) (hm : mg "_law_right" = some (.ref f)) : GlB P w K mg base 15 gl__law_right :=
  GlB.cons (GvB.fun F hm (F.binds fun _ _ _ _ _ _ us hl => match us, hl with | [_], _ => rfl) (f__law_right F G) rfl (fun z hz => by cases hz)) G (Nat.le_succ _)
theorem f_law {f : Addr} {fd : FuncData} (F : Fun K "law" "law" s_law f fd) (G : GlB P w K mg base 15 gl__law_right) : FnG P w K mg base CX0 16 f fd ["_law_script"] (SpM K 1 lawM) := def_ok rules2_ok (n := 40) F sc_law G e_law p_law
end
theorem all_mk {l : PySem.W.OpenLaw} {w : World} {K : PySem.W.Frag} {h : Heap} {mg : Str → Option Value} {fa : Addr} (X : K.In h) (G : h.Ns mainGlobals mg) (hfa : mg "law" = some (.ref fa))
    {f0 f1 f2 f3 f4 f5 f6 f7 f8 f9 f10 f11 f12 f13 f14 f15 : Addr} {od0 an0 od1 an1 od2 an2 od3 an3 od4 an4 od5 an5 od6 an6 od7 an7 od8 an8 od9 an9 od10 an10 od11 an11 od12 an12 od13 an13 od14 an14 od15 an15 : Option Addr} {sl0 sl1 sl2 sl3 sl4 sl5 sl6 sl7 sl8 sl9 sl10 sl11 sl12 sl13 sl14 sl15 : Array (Option Value)} {oc0 kV0 dc0 pm0 cd0 ct0 oc1 kV1 dc1 pm1 cd1 ct1 oc2 kV2 dc2 pm2 cd2 ct2 oc3 kV3 dc3 pm3 cd3 ct3 oc4 kV4 dc4 pm4 cd4 ct4 oc5 kV5 dc5 pm5 cd5 ct5 oc6 kV6 dc6 pm6 cd6 ct6 oc7 kV7 dc7 pm7 cd7 ct7 oc8 kV8 dc8 pm8 cd8 ct8 oc9 kV9 dc9 pm9 cd9 ct9 oc10 kV10 dc10 pm10 cd10 ct10 oc11 kV11 dc11 pm11 cd11 ct11 oc12 kV12 dc12 pm12 cd12 ct12 oc13 kV13 dc13 pm13 cd13 ct13 oc14 kV14 dc14 pm14 cd14 ct14 oc15 kV15 dc15 pm15 cd15 ct15 : Value}
    (a0 : PySem.W.nsIn K mainGlobals "is_name" = some (some (.ref f0))) (l0 : K.lookup f0 = some ⟨oc0, od0, .func (PySem.W.fnOf "is_name" "is_name" (defArgs s_is_name) (defBody s_is_name) (defScope s_is_name) .none kV0 dc0 pm0 an0 cd0 ct0), sl0⟩) (c0 : PySem.W.codeIn K cd0 "is_name" = true) (k0 : PySem.W.keepIn K (.ref f0) = true)
    (a1 : PySem.W.nsIn K mainGlobals "is_integer" = some (some (.ref f1))) (l1 : K.lookup f1 = some ⟨oc1, od1, .func (PySem.W.fnOf "is_integer" "is_integer" (defArgs s_is_integer) (defBody s_is_integer) (defScope s_is_integer) .none kV1 dc1 pm1 an1 cd1 ct1), sl1⟩) (c1 : PySem.W.codeIn K cd1 "is_integer" = true) (k1 : PySem.W.keepIn K (.ref f1) = true)
    (a2 : PySem.W.nsIn K mainGlobals "is_scalar" = some (some (.ref f2))) (l2 : K.lookup f2 = some ⟨oc2, od2, .func (PySem.W.fnOf "is_scalar" "is_scalar" (defArgs s_is_scalar) (defBody s_is_scalar) (defScope s_is_scalar) .none kV2 dc2 pm2 an2 cd2 ct2), sl2⟩) (c2 : PySem.W.codeIn K cd2 "is_scalar" = true) (k2 : PySem.W.keepIn K (.ref f2) = true)
    (a3 : PySem.W.nsIn K mainGlobals "is_value" = some (some (.ref f3))) (l3 : K.lookup f3 = some ⟨oc3, od3, .func (PySem.W.fnOf "is_value" "is_value" (defArgs s_is_value) (defBody s_is_value) (defScope s_is_value) .none kV3 dc3 pm3 an3 cd3 ct3), sl3⟩) (c3 : PySem.W.codeIn K cd3 "is_value" = true) (k3 : PySem.W.keepIn K (.ref f3) = true)
    (a4 : PySem.W.nsIn K mainGlobals "is_true" = some (some (.ref f4))) (l4 : K.lookup f4 = some ⟨oc4, od4, .func (PySem.W.fnOf "is_true" "is_true" (defArgs s_is_true) (defBody s_is_true) (defScope s_is_true) .none kV4 dc4 pm4 an4 cd4 ct4), sl4⟩) (c4 : PySem.W.codeIn K cd4 "is_true" = true) (k4 : PySem.W.keepIn K (.ref f4) = true)
    (a5 : PySem.W.nsIn K mainGlobals "_law_state" = some (some (.ref f5))) (l5 : K.lookup f5 = some ⟨oc5, od5, .func (PySem.W.fnOf "_law_state" "_law_state" (defArgs s__law_state) (defBody s__law_state) (defScope s__law_state) .none kV5 dc5 pm5 an5 cd5 ct5), sl5⟩) (c5 : PySem.W.codeIn K cd5 "_law_state" = true) (k5 : PySem.W.keepIn K (.ref f5) = true)
    (a6 : PySem.W.nsIn K mainGlobals "_law_draw" = some (some (.ref f6))) (l6 : K.lookup f6 = some ⟨oc6, od6, .func (PySem.W.fnOf "_law_draw" "_law_draw" (defArgs s__law_draw) (defBody s__law_draw) (defScope s__law_draw) .none kV6 dc6 pm6 an6 cd6 ct6), sl6⟩) (c6 : PySem.W.codeIn K cd6 "_law_draw" = true) (k6 : PySem.W.keepIn K (.ref f6) = true)
    (a7 : PySem.W.nsIn K mainGlobals "_law_pick" = some (some (.ref f7))) (l7 : K.lookup f7 = some ⟨oc7, od7, .func (PySem.W.fnOf "_law_pick" "_law_pick" (defArgs s__law_pick) (defBody s__law_pick) (defScope s__law_pick) .none kV7 dc7 pm7 an7 cd7 ct7), sl7⟩) (c7 : PySem.W.codeIn K cd7 "_law_pick" = true) (k7 : PySem.W.keepIn K (.ref f7) = true)
    (a8 : PySem.W.nsIn K mainGlobals "_law_mixed" = some (some (.ref f8))) (l8 : K.lookup f8 = some ⟨oc8, od8, .func (PySem.W.fnOf "_law_mixed" "_law_mixed" (defArgs s__law_mixed) (defBody s__law_mixed) (defScope s__law_mixed) .none kV8 dc8 pm8 an8 cd8 ct8), sl8⟩) (c8 : PySem.W.codeIn K cd8 "_law_mixed" = true) (k8 : PySem.W.keepIn K (.ref f8) = true)
    (a9 : PySem.W.nsIn K mainGlobals "_law_thing" = some (some (.ref f9))) (l9 : K.lookup f9 = some ⟨oc9, od9, .func (PySem.W.fnOf "_law_thing" "_law_thing" (defArgs s__law_thing) (defBody s__law_thing) (defScope s__law_thing) .none kV9 dc9 pm9 an9 cd9 ct9), sl9⟩) (c9 : PySem.W.codeIn K cd9 "_law_thing" = true) (k9 : PySem.W.keepIn K (.ref f9) = true)
    (a10 : PySem.W.nsIn K mainGlobals "_law_is_integer" = some (some (.ref f10))) (l10 : K.lookup f10 = some ⟨oc10, od10, .func (PySem.W.fnOf "_law_is_integer" "_law_is_integer" (defArgs s__law_is_integer) (defBody s__law_is_integer) (defScope s__law_is_integer) .none kV10 dc10 pm10 an10 cd10 ct10), sl10⟩) (c10 : PySem.W.codeIn K cd10 "_law_is_integer" = true) (k10 : PySem.W.keepIn K (.ref f10) = true)
    (a11 : PySem.W.nsIn K mainGlobals "_law_is_name" = some (some (.ref f11))) (l11 : K.lookup f11 = some ⟨oc11, od11, .func (PySem.W.fnOf "_law_is_name" "_law_is_name" (defArgs s__law_is_name) (defBody s__law_is_name) (defScope s__law_is_name) .none kV11 dc11 pm11 an11 cd11 ct11), sl11⟩) (c11 : PySem.W.codeIn K cd11 "_law_is_name" = true) (k11 : PySem.W.keepIn K (.ref f11) = true)
    (a12 : PySem.W.nsIn K mainGlobals "_law_is_scalar" = some (some (.ref f12))) (l12 : K.lookup f12 = some ⟨oc12, od12, .func (PySem.W.fnOf "_law_is_scalar" "_law_is_scalar" (defArgs s__law_is_scalar) (defBody s__law_is_scalar) (defScope s__law_is_scalar) .none kV12 dc12 pm12 an12 cd12 ct12), sl12⟩) (c12 : PySem.W.codeIn K cd12 "_law_is_scalar" = true) (k12 : PySem.W.keepIn K (.ref f12) = true)
    (a13 : PySem.W.nsIn K mainGlobals "_law_word" = some (some (.ref f13))) (l13 : K.lookup f13 = some ⟨oc13, od13, .func (PySem.W.fnOf "_law_word" "_law_word" (defArgs s__law_word) (defBody s__law_word) (defScope s__law_word) .none kV13 dc13 pm13 an13 cd13 ct13), sl13⟩) (c13 : PySem.W.codeIn K cd13 "_law_word" = true) (k13 : PySem.W.keepIn K (.ref f13) = true)
    (a14 : PySem.W.nsIn K mainGlobals "_law_right" = some (some (.ref f14))) (l14 : K.lookup f14 = some ⟨oc14, od14, .func (PySem.W.fnOf "_law_right" "_law_right" (defArgs s__law_right) (defBody s__law_right) (defScope s__law_right) .none kV14 dc14 pm14 an14 cd14 ct14), sl14⟩) (c14 : PySem.W.codeIn K cd14 "_law_right" = true) (k14 : PySem.W.keepIn K (.ref f14) = true)
    (a15 : PySem.W.nsIn K mainGlobals "law" = some (some (.ref f15))) (l15 : K.lookup f15 = some ⟨oc15, od15, .func (PySem.W.fnOf "law" "law" (defArgs s_law) (defBody s_law) (defScope s_law) .none kV15 dc15 pm15 an15 cd15 ct15), sl15⟩) (c15 : PySem.W.codeIn K cd15 "law" = true) (k15 : PySem.W.keepIn K (.ref f15) = true)
    (z0 : PySem.W.nsIn K mainGlobals "abs" = some none)
    (z1 : PySem.W.nsIn K mainGlobals "all" = some none)
    (z2 : PySem.W.nsIn K mainGlobals "bool" = some none)
    (z3 : PySem.W.nsIn K mainGlobals "int" = some none)
    (z4 : PySem.W.nsIn K mainGlobals "isinstance" = some none)
    (z5 : PySem.W.nsIn K mainGlobals "len" = some none)
    (z6 : PySem.W.nsIn K mainGlobals "list" = some none)
    (z7 : PySem.W.nsIn K mainGlobals "range" = some none)
    (z8 : PySem.W.nsIn K mainGlobals "repr" = some none)
    (z9 : PySem.W.nsIn K mainGlobals "str" = some none)
    (z10 : PySem.W.nsIn K mainGlobals "tuple" = some none)
    {u0 : Tok} (y0 : PySem.W.nsIn K mainGlobals "LETTERS" = some (some (.str "abcdefghijklmnopqrstuvwxyz" u0)))
    {u1 : Tok} (y1 : PySem.W.nsIn K mainGlobals "LONGEST_NAME" = some (some (.int 8 u1)))
    {u2 : Tok} (y2 : PySem.W.nsIn K mainGlobals "LONGEST_STRING" = some (some (.int 60 u2)))
    {u3 : Tok} (y3 : PySem.W.nsIn K mainGlobals "MOST_SCALARS" = some (some (.int 20 u3)))
    {u4 : Tok} (y4 : PySem.W.nsIn K mainGlobals "GREATEST" = some (some (.int 1000000000000000000 u4)))
    {u5_0 u5_1 u5_2 u5_3 u5_4 : Tok} {r5 : Addr} {ro5 : Option Addr} {rs5 : Array (Option Value)} {rn5 : Nat} (y5 : PySem.W.nsIn K mainGlobals "RESERVED" = some (some (.ref r5))) (ty5 : K.lookup r5 = some ⟨.type "tuple", ro5, .seq #[.str "input" u5_0, .str "kind" u5_1, .str "mark" u5_2, .str "open" u5_3, .str "self" u5_4] rn5, rs5⟩)
    : ∃ fd : FuncData, (∀ (s : Shared) (v : Value), BindsTo s fd ⟨[v], []⟩ [("_law_script", v)]) ∧ ∀ base : Heap, K.In base → base.Ns mainGlobals mg → FnG l.prog w K mg base CX0 16 fa fd ["_law_script"] (SpM K 1 lawM) := by
  have e := hfa.symm.trans (PySem.W.mg_of X G a15)
  cases e
  refine ⟨PySem.W.fnOf "law" "law" (defArgs s_law) (defBody s_law) (defScope s_law) .none kV15 dc15 pm15 an15 cd15 ct15, fun s v => .of_eq rfl, fun base _ _ => ?_⟩
  have H0 : GlB l.prog w K mg base 0 gl0 := glb0 ⟨PySem.W.mg_none_of X G z0, PySem.W.mg_none_of X G z1, PySem.W.mg_none_of X G z2, PySem.W.mg_none_of X G z3, PySem.W.mg_none_of X G z4, PySem.W.mg_none_of X G z5, PySem.W.mg_none_of X G z6, PySem.W.mg_none_of X G z7, PySem.W.mg_none_of X G z8, PySem.W.mg_none_of X G z9, PySem.W.mg_none_of X G z10⟩ (PySem.W.mg_of X G y0) (PySem.W.mg_of X G y1) (PySem.W.mg_of X G y2) (PySem.W.mg_of X G y3) (PySem.W.mg_of X G y4) (PySem.W.mg_of X G y5) ty5
  have H1 := glb_is_name (fun_mk (st := s_is_name) l0 c0 k0) H0 (PySem.W.mg_of X G a0)
  have H2 := glb_is_integer (fun_mk (st := s_is_integer) l1 c1 k1) H1 (PySem.W.mg_of X G a1)
  have H3 := glb_is_scalar (fun_mk (st := s_is_scalar) l2 c2 k2) H2 (PySem.W.mg_of X G a2)
  have H4 := glb_is_value (fun_mk (st := s_is_value) l3 c3 k3) H3 (PySem.W.mg_of X G a3)
  have H5 := glb_is_true (fun_mk (st := s_is_true) l4 c4 k4) H4 (PySem.W.mg_of X G a4)
  have H6 := glb__law_state (fun_mk (st := s__law_state) l5 c5 k5) H5 (PySem.W.mg_of X G a5)
  have H7 := glb__law_draw (fun_mk (st := s__law_draw) l6 c6 k6) H6 (PySem.W.mg_of X G a6)
  have H8 := glb__law_pick (fun_mk (st := s__law_pick) l7 c7 k7) H7 (PySem.W.mg_of X G a7)
  have H9 := glb__law_mixed (fun_mk (st := s__law_mixed) l8 c8 k8) H8 (PySem.W.mg_of X G a8)
  have H10 := glb__law_thing (fun_mk (st := s__law_thing) l9 c9 k9) H9 (PySem.W.mg_of X G a9)
  have H11 := glb__law_is_integer (fun_mk (st := s__law_is_integer) l10 c10 k10) H10 (PySem.W.mg_of X G a10)
  have H12 := glb__law_is_name (fun_mk (st := s__law_is_name) l11 c11 k11) H11 (PySem.W.mg_of X G a11)
  have H13 := glb__law_is_scalar (fun_mk (st := s__law_is_scalar) l12 c12 k12) H12 (PySem.W.mg_of X G a12)
  have H14 := glb__law_word (fun_mk (st := s__law_word) l13 c13 k13) H13 (PySem.W.mg_of X G a13)
  have H15 := glb__law_right (fun_mk (st := s__law_right) l14 c14 k14) H14 (PySem.W.mg_of X G a14)
  exact f_law (fun_mk (st := s_law) l15 c15 k15) H15

end DL.K01
open PySem PySem.W PyProof.Rows in
set_option maxRecDepth 100000 in
set_option maxHeartbeats 0 in
theorem PySem.Challenge.cw_viewturns_k01_names_and_values_holds : PySem.Challenge.rw_viewturns_k01_names_and_values.Holds := by
  w_on; o_law; k_head; (case hw => w_witness2)
  k_fill
  refine DL.walkG (l := PySem.Challenge.rw_viewturns_k01_names_and_values) (n := 63) (k := 16) (x := "_law_script") (sp := fun K => DL.SpM K 1 DL.lawM) rfl (by decide) rfl ⟨rfl, by decide, by decide⟩ (fun w h Y => PySem.W.kIn_of Y) ?F (DL.law_sp 63)
  case F =>
    intro w mg fa h KX G hmg
    refine' DL.K01.all_mk KX G hmg ?a0 ?l0 ?c0 ?k0 ?a1 ?l1 ?c1 ?k1 ?a2 ?l2 ?c2 ?k2 ?a3 ?l3 ?c3 ?k3 ?a4 ?l4 ?c4 ?k4 ?a5 ?l5 ?c5 ?k5 ?a6 ?l6 ?c6 ?k6 ?a7 ?l7 ?c7 ?k7 ?a8 ?l8 ?c8 ?k8 ?a9 ?l9 ?c9 ?k9 ?a10 ?l10 ?c10 ?k10 ?a11 ?l11 ?c11 ?k11 ?a12 ?l12 ?c12 ?k12 ?a13 ?l13 ?c13 ?k13 ?a14 ?l14 ?c14 ?k14 ?a15 ?l15 ?c15 ?k15 ?z0 ?z1 ?z2 ?z3 ?z4 ?z5 ?z6 ?z7 ?z8 ?z9 ?z10 ?y0 ?y1 ?y2 ?y3 ?y4 ?y5 ?ty5
    (case a0 => k_is)
    (case l0 => k_is)
    (case c0 => k_is)
    (case k0 => k_is)
    (case a1 => k_is)
    (case l1 => k_is)
    (case c1 => k_is)
    (case k1 => k_is)
    (case a2 => k_is)
    (case l2 => k_is)
    (case c2 => k_is)
    (case k2 => k_is)
    (case a3 => k_is)
    (case l3 => k_is)
    (case c3 => k_is)
    (case k3 => k_is)
    (case a4 => k_is)
    (case l4 => k_is)
    (case c4 => k_is)
    (case k4 => k_is)
    (case a5 => k_is)
    (case l5 => k_is)
    (case c5 => k_is)
    (case k5 => k_is)
    (case a6 => k_is)
    (case l6 => k_is)
    (case c6 => k_is)
    (case k6 => k_is)
    (case a7 => k_is)
    (case l7 => k_is)
    (case c7 => k_is)
    (case k7 => k_is)
    (case a8 => k_is)
    (case l8 => k_is)
    (case c8 => k_is)
    (case k8 => k_is)
    (case a9 => k_is)
    (case l9 => k_is)
    (case c9 => k_is)
    (case k9 => k_is)
    (case a10 => k_is)
    (case l10 => k_is)
    (case c10 => k_is)
    (case k10 => k_is)
    (case a11 => k_is)
    (case l11 => k_is)
    (case c11 => k_is)
    (case k11 => k_is)
    (case a12 => k_is)
    (case l12 => k_is)
    (case c12 => k_is)
    (case k12 => k_is)
    (case a13 => k_is)
    (case l13 => k_is)
    (case c13 => k_is)
    (case k13 => k_is)
    (case a14 => k_is)
    (case l14 => k_is)
    (case c14 => k_is)
    (case k14 => k_is)
    (case a15 => k_is)
    (case l15 => k_is)
    (case c15 => k_is)
    (case k15 => k_is)
    (case z0 => k_is)
    (case z1 => k_is)
    (case z2 => k_is)
    (case z3 => k_is)
    (case z4 => k_is)
    (case z5 => k_is)
    (case z6 => k_is)
    (case z7 => k_is)
    (case z8 => k_is)
    (case z9 => k_is)
    (case z10 => k_is)
    (case y0 => k_is)
    (case y1 => k_is)
    (case y2 => k_is)
    (case y3 => k_is)
    (case y4 => k_is)
    (case y5 => k_is)
    (case ty5 => k_is)
