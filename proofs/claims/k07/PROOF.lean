import PyProof.Rows.All
import Wide.All
import OpenK.AllK
import Wide.FinOn
import HandS.ForMost
import HandS.Flow
import HandS.TupAny
import HandS.ExcInit
import HandS.Property
import HandS.TupMul
import HandS.IsInst
import HandS.Deep
import PyProof.P3In
import HandS.ExcOwn
import HandS.ExcIs
import HandS.ExcField
import KE.KSuper
import HandS.SortInts
import HandS.Conv
import PyProof.ReprRoads
import HandS.Walk
import HandS.Zip
import HandS.ClsMeth
import KE.GoesMore
import KE.DataMinMax
import HandS.SortKw
import KE.GoesEnum
import HandS.More
import HandS.Set
import HandS.SetFor
import HandS.Strs
import HandS.Style
import KE.KExcSuper
import PyProof.InstNe
import HandS.Head0
import HandS.Head1
import HandS.Head2
import HandS.HeadEnd
import HandS.HeadHook1
import HandS.HeadHook2
import HandS.ExcValue
import KE.DataFind
import KE.GoesComp
import PySem.Challenge.RW_viewturns_k07_errors_made
set_option Elab.async false
set_option linter.all false
set_option maxRecDepth 100000
set_option maxHeartbeats 4000000
/-! DL: values as trees over the layer HandS: what a piece of text computes, as a term over trees, and that it computes it. -/
namespace DL
open PySem L2

/-- a value with all that hangs below it -/
inductive D where
  | non | bl (b : Bool) | int (i : Int) | str (x : Str)
  | lst (xs : List D) | tup (xs : List D) | dct (kvs : List (D × D))
  | obj (c : Str) (fs : List (Str × D)) | exn (c : Str) (fs : List (Str × D)) | raw (v : V) | gen | scr (ns : List Int)

def kD : Key → D
  | .inl i => .int i
  | .inr x => .str x

/-! ### the source of draws: a list of a list of ints and two ints, known by what it is -/
def cellsO (c : Addr) : Heap → Prop := fun h => ∃ (its : List Value) (n : Nat) (ns : List Int), PyProof.Rows.IntsAre its ns ∧ ns ≠ [] ∧ (∀ x ∈ ns, 0 ≤ x) ∧ ns.length ≤ 63 ∧ h.get? c = some { cls := .type "list", data := .seq its.toArray n }
def genO (g c : Addr) : Heap → Prop := fun h => ∃ (i m : Int) (t u : Tok) (n : Nat), 0 ≤ i ∧ 0 ≤ m ∧ m < 2147483647 ∧ h.get? g = some { cls := .type "list", data := .seq #[.ref c, .int i t, .int m u] n }
def GenAt (H : Hp) (g c : Addr) : Prop := H g = some (.ext (genO g c)) ∧ H c = some (.ext (cellsO c)) ∧ g ≠ c

/-- the law's own list of ints -/
def ScrAt (K : PySem.W.Frag) (H : Hp) (a : Addr) (xs : List V) : Prop := (∃ o, H a = some (.frz o (.lst xs))) ∨ ∃ (o : Obj) (its : Array Value) (n : Nat), K.lookup a = some o ∧ o.cls = .type "list" ∧ o.dict = none ∧ o.data = .seq its n ∧ its.size ≤ sizeLine ∧ Vals xs its.toList
theorem ScrAt.sql {K : PySem.W.Frag} {H : Hp} {a : Addr} {xs : List V} (h : ScrAt K H a xs) : SqL K H a xs := by
  rcases h with h | h
  · exact .inl (.inr h)
  · exact .inr h
theorem ScrAt.mono {K : PySem.W.Frag} {H H' : Hp} {a : Addr} {xs : List V} (e : Same H H') (h : ScrAt K H a xs) : ScrAt K H' a xs := by
  rcases h with ⟨o, h⟩ | h
  · exact .inl ⟨o, e _ _ h⟩
  · exact .inr h

/-- the class that the main module's name c means -/
def ClsAt (K : PySem.W.Frag) (c : Str) (C : Addr) : Prop := PySem.W.nsIn K mainGlobals c = some (some (.ref C))
theorem ClsAt.one {K : PySem.W.Frag} {c : Str} {C D : Addr} (h : ClsAt K c C) (g : ClsAt K c D) : C = D := by
  unfold ClsAt at h g
  rw [h] at g
  cases g
  rfl
/-- at a: an instance of the class c -/
def ObjAt (K : PySem.W.Frag) (H : Hp) (a : Addr) (c : Str) (gs : List (Str × V)) : Prop := ∃ C dx, ClsAt K c C ∧ H a = some (.ins C dx gs)
theorem ObjAt.mono {K : PySem.W.Frag} {H H' : Hp} {a : Addr} {c : Str} {gs : List (Str × V)} (e : Same H H') (h : ObjAt K H a c gs) : ObjAt K H' a c gs := by
  obtain ⟨C, dx, hc, h⟩ := h
  exact ⟨C, dx, hc, e _ _ h⟩
/-- at a: an exception that is held, its class, its dict -/
def xh (a C : Addr) (d : Option Addr) : HO := .ext fun h => ∃ (oe : Obj) (vs : Array Value), h.get? a = some oe ∧ oe.cls = .ref C ∧ oe.dict = d ∧ oe.data = .fields vs
/-- at a: an exception of the class c -/
def ExnAt (K : PySem.W.Frag) (H : Hp) (a : Addr) (c : Str) (gs : List (Str × V)) : Prop := ∃ C, ClsAt K c C ∧ ((∃ dx, H a = some (xh a C (some dx)) ∧ H dx = some (.xd gs)) ∨ (H a = some (xh a C none) ∧ gs = []))
theorem ExnAt.mono {K : PySem.W.Frag} {H H' : Hp} {a : Addr} {c : Str} {gs : List (Str × V)} (e : Same H H') (h : ExnAt K H a c gs) : ExnAt K H' a c gs := by
  obtain ⟨C, hc, ⟨dx, h, g⟩ | ⟨h, g⟩⟩ := h
  · exact ⟨C, hc, .inl ⟨dx, e _ _ h, e _ _ g⟩⟩
  · exact ⟨C, hc, .inr ⟨e _ _ h, g⟩⟩
mutual
inductive Rep (K : PySem.W.Frag) (H : Hp) : V → D → Prop
  | non : Rep K H .non .non
  | bl (b : Bool) : Rep K H (.bl b) (.bl b)
  | int (i : Int) : Rep K H (.int i) (.int i)
  | str (x : Str) : Rep K H (.str x) (.str x)
  | lst {a : Addr} {vs : List V} {ds : List D} : H a = some (.lst vs) → RepL K H vs ds → Rep K H (.ref a) (.lst ds)
  | tup {a : Addr} {vs : List V} {ds : List D} : SqT K H a vs → RepL K H vs ds → Rep K H (.ref a) (.tup ds)
  | dct {a : Addr} {ks : List (Key × V)} {kvs : List (D × D)} : H a = some (.dK ks) → RepK K H ks kvs → Rep K H (.ref a) (.dct kvs)
  | raw (v : V) : Rep K H v (.raw v)
  | gen {g c : Addr} : GenAt H g c → Rep K H (.ref g) .gen
  | scr {a : Addr} {ns : List Int} : ScrAt K H a (ns.map V.int) → Rep K H (.ref a) (.scr ns)
  | obj {a : Addr} {c : Str} {gs : List (Str × V)} {fs : List (Str × D)} : ObjAt K H a c gs → RepF K H gs fs → Rep K H (.ref a) (.obj c fs)
  | exn {a : Addr} {c : Str} {gs : List (Str × V)} {fs : List (Str × D)} : ExnAt K H a c gs → RepF K H gs fs → Rep K H (.ref a) (.exn c fs)
inductive RepF (K : PySem.W.Frag) (H : Hp) : List (Str × V) → List (Str × D) → Prop
  | nil : RepF K H [] []
  | cons {f : Str} {v : V} {d : D} {gs : List (Str × V)} {fs : List (Str × D)} : Rep K H v d → RepF K H gs fs → RepF K H ((f, v) :: gs) ((f, d) :: fs)
inductive RepL (K : PySem.W.Frag) (H : Hp) : List V → List D → Prop
  | nil : RepL K H [] []
  | cons {v : V} {d : D} {vs : List V} {ds : List D} : Rep K H v d → RepL K H vs ds → RepL K H (v :: vs) (d :: ds)
inductive RepK (K : PySem.W.Frag) (H : Hp) : List (Key × V) → List (D × D) → Prop
  | nil : RepK K H [] []
  | cons {k : Key} {v : V} {d : D} {ks : List (Key × V)} {kvs : List (D × D)} : Rep K H v d → RepK K H ks kvs → RepK K H ((k, v) :: ks) ((kD k, d) :: kvs)
end

theorem sqT_same {K : PySem.W.Frag} {H H' : Hp} {a : Addr} {xs : List V} (e : Same H H') (h : SqT K H a xs) : SqT K H' a xs := by
  rcases h with (h | ⟨o, h⟩) | h
  · exact .inl (.inl (e _ _ h))
  · exact .inl (.inr ⟨o, e _ _ h⟩)
  · exact .inr h
section
variable {K : PySem.W.Frag} {H H' : Hp}
mutual
theorem Rep.mono (e : Same H H') : ∀ {v : V} {d : D}, Rep K H v d → Rep K H' v d
  | _, _, .non => .non
  | _, _, .bl b => .bl b
  | _, _, .int i => .int i
  | _, _, .str x => .str x
  | _, _, .lst h r => .lst (e _ _ h) (RepL.mono e r)
  | _, _, .tup h r => .tup (sqT_same e h) (RepL.mono e r)
  | _, _, .dct h r => .dct (e _ _ h) (RepK.mono e r)
  | _, _, .raw v => .raw v
  | _, _, .gen h => .gen ⟨e _ _ h.1, e _ _ h.2.1, h.2.2⟩
  | _, _, .scr h => .scr (h.mono e)
  | _, _, .obj h r => .obj (h.mono e) (RepF.mono e r)
  | _, _, .exn h r => .exn (h.mono e) (RepF.mono e r)
theorem RepF.mono (e : Same H H') : ∀ {gs : List (Str × V)} {fs : List (Str × D)}, RepF K H gs fs → RepF K H' gs fs
  | _, _, .nil => .nil
  | _, _, .cons r t => .cons (Rep.mono e r) (RepF.mono e t)
theorem RepL.mono (e : Same H H') : ∀ {vs : List V} {ds : List D}, RepL K H vs ds → RepL K H' vs ds
  | _, _, .nil => .nil
  | _, _, .cons r t => .cons (Rep.mono e r) (RepL.mono e t)
theorem RepK.mono (e : Same H H') : ∀ {ks : List (Key × V)} {kvs : List (D × D)}, RepK K H ks kvs → RepK K H' ks kvs
  | _, _, .nil => .nil
  | _, _, .cons r t => .cons (Rep.mono e r) (RepK.mono e t)
end
theorem RepF.look : ∀ {gs : List (Str × V)} {fs : List (Str × D)} {f : Str} {d : D}, RepF K H gs fs → fs.lookup f = some d → ∃ v, gs.lookup f = some v ∧ Rep K H v d
  | _, _, _, _, .nil, e => by simp at e
  | _, _, f, d, .cons (f := g) r t, e => by
    by_cases h : f = g
    · subst h
      simp [List.lookup] at e
      subst e
      exact ⟨_, by simp [List.lookup], r⟩
    · have hb : (f == g) = false := by simpa using h
      simp only [List.lookup, hb] at e ⊢
      exact RepF.look t e
theorem RepF.none : ∀ {gs : List (Str × V)} {fs : List (Str × D)} {f : Str}, RepF K H gs fs → fs.lookup f = none → gs.lookup f = none
  | _, _, _, .nil, _ => rfl
  | _, _, f, .cons (f := g) r t, e => by
    by_cases h : f = g
    · subst h
      simp [List.lookup] at e
    · have hb : (f == g) = false := by simpa using h
      simp only [List.lookup, hb] at e ⊢
      exact RepF.none t e
theorem RepL.length : ∀ {vs : List V} {ds : List D}, RepL K H vs ds → vs.length = ds.length
  | _, _, .nil => rfl
  | _, _, .cons _ t => by simp [RepL.length t]
theorem RepL.append : ∀ {vs ws : List V} {ds es : List D}, RepL K H vs ds → RepL K H ws es → RepL K H (vs ++ ws) (ds ++ es)
  | _, _, _, _, .nil, s => s
  | _, _, _, _, .cons r t, s => .cons r (RepL.append t s)
theorem RepL.get : ∀ {vs : List V} {ds : List D} {i : Nat} {d : D}, RepL K H vs ds → ds[i]? = some d → ∃ v, vs[i]? = some v ∧ Rep K H v d
  | _, _, _, _, .nil, e => by simp at e
  | _, _, 0, _, .cons r _, e => by simp at e; subst e; exact ⟨_, rfl, r⟩
  | _, _, i + 1, d, .cons _ t, e => by
    obtain ⟨v, h1, h2⟩ := RepL.get (i := i) (d := d) t (by simpa using e)
    exact ⟨v, by simpa using h1, h2⟩
theorem RepL.getV : ∀ {vs : List V} {ds : List D} {i : Nat} {v : V}, RepL K H vs ds → vs[i]? = some v → ∃ d, ds[i]? = some d ∧ Rep K H v d
  | _, _, _, _, .nil, e => by simp at e
  | _, _, 0, _, .cons r _, e => by simp at e; subst e; exact ⟨_, rfl, r⟩
  | _, _, i + 1, d, .cons _ t, e => by
    obtain ⟨v, h1, h2⟩ := RepL.getV (i := i) (v := d) t (by simpa using e)
    exact ⟨v, by simpa using h1, h2⟩
theorem RepL.take : ∀ {vs : List V} {ds : List D} (n : Nat), RepL K H vs ds → RepL K H (vs.take n) (ds.take n)
  | _, _, 0, _ => .nil
  | _, _, _ + 1, .nil => .nil
  | _, _, n + 1, .cons r t => .cons r (RepL.take n t)
theorem RepL.drop : ∀ {vs : List V} {ds : List D} (n : Nat), RepL K H vs ds → RepL K H (vs.drop n) (ds.drop n)
  | _, _, 0, r => r
  | _, _, _ + 1, .nil => .nil
  | _, _, n + 1, .cons _ t => RepL.drop n t
theorem RepL.set {v : V} {d : D} (r : Rep K H v d) : ∀ {vs : List V} {ds : List D} (i : Nat), RepL K H vs ds → RepL K H (vs.set i v) (ds.set i d)
  | _, _, _, .nil => .nil
  | _, _, 0, .cons _ t => .cons r t
  | _, _, i + 1, .cons q t => .cons q (RepL.set r i t)
theorem RepL.eraseIdx : ∀ {vs : List V} {ds : List D} (i : Nat), RepL K H vs ds → RepL K H (vs.eraseIdx i) (ds.eraseIdx i)
  | _, _, _, .nil => .nil
  | _, _, 0, .cons _ t => t
  | _, _, i + 1, .cons q t => .cons q (RepL.eraseIdx i t)
theorem RepL.isEmpty {vs : List V} {ds : List D} (r : RepL K H vs ds) : vs.isEmpty = ds.isEmpty := by cases r <;> rfl
theorem RepL.dropLast : ∀ {vs : List V} {ds : List D}, RepL K H vs ds → RepL K H vs.dropLast ds.dropLast := fun {vs ds} r => by
  rw [List.dropLast_eq_take, List.dropLast_eq_take, r.length]
  exact r.take _
end

/-! ### the state: what is read alone from here on (F), what stands (H); B and F0: at the def's entry -/
inductive Cell where
  | no | sh (d : D) | ow (d : D) (z : Option Addr)
abbrev Env := List Cell
/-- more is known; nothing that stood is changed; what is newly frozen is new -/
structure Grow (F H F' H' : Hp) : Prop where
  h : Same H H'
  f : Same F F'
  fh : Same F' H'
  nw : ∀ a o, F' a = some o → F a = some o ∨ H a = none
theorem Grow.refl {F H : Hp} (s : Same F H) : Grow F H F H := ⟨Same.refl H, Same.refl F, s, fun _ _ e => .inl e⟩
theorem Grow.trans {F H F1 H1 F2 H2 : Hp} (a : Grow F H F1 H1) (b : Grow F1 H1 F2 H2) : Grow F H F2 H2 :=
  ⟨a.h.trans b.h, a.f.trans b.f, b.fh, fun x o e => by
    rcases b.nw x o e with q | q
    · exact a.nw x o q
    · exact .inr (a.h.free q)⟩
/-- a new object, read alone from here on -/
theorem Grow.new {F H : Hp} (s : Same F H) {p : Addr} (hp : H p = none) (o : HO) : Grow F H (upd F p o) (upd H p o) := by
  have fp : F p = none := s.free hp
  refine ⟨fun b u e => ?_, fun b u e => ?_, fun b u e => ?_, fun b u e => ?_⟩
  · rw [upd_ne (ne_of_none e hp)]; exact e
  · rw [upd_ne (ne_of_none e fp)]; exact e
  · by_cases hb : b = p
    · subst hb; rw [upd_same] at e ⊢; exact e
    · rw [upd_ne hb] at e ⊢; exact s b u e
  · by_cases hb : b = p
    · subst hb; exact .inr hp
    · rw [upd_ne hb] at e; exact .inl e
/-- a new object that may still change -/
theorem Grow.own {F H : Hp} (s : Same F H) {p : Addr} (hp : H p = none) (o : HO) : Grow F H F (upd H p o) := by
  refine ⟨fun b u e => ?_, Same.refl F, fun b u e => ?_, fun _ _ e => .inl e⟩
  · rw [upd_ne (ne_of_none e hp)]; exact e
  · rw [upd_ne (ne_of_none (s b u e) hp)]; exact s b u e
/-- what stands at p that is not frozen is frozen -/
theorem Grow.freeze {F H F' H' : Hp} (g : Grow F H F' H') {p : Addr} {o : HO} (hp : H p = none) (e : H' p = some o) : Grow F H (upd F' p o) H' := by
  refine ⟨g.h, fun b u q => ?_, fun b u q => ?_, fun b u q => ?_⟩
  · by_cases hb : b = p
    · subst hb
      have := g.f b u q
      have z := g.fh b u this
      rw [e] at z
      rw [upd_same, ← z]
    · rw [upd_ne hb]; exact g.f b u q
  · by_cases hb : b = p
    · subst hb; rw [upd_same] at q; rw [← q]; exact e
    · rw [upd_ne hb] at q; exact g.fh b u q
  · by_cases hb : b = p
    · subst hb; exact .inr hp
    · rw [upd_ne hb] at q; exact g.nw b u q

/-- at p stands something that only one holds, its parts read alone -/
def Own (K : PySem.W.Frag) (F H : Hp) (p : Addr) : D → Prop
  | .lst ds => ∃ vs, H p = some (.lst vs) ∧ RepL K F vs ds
  | .dct kvs => ∃ ks, H p = some (.dK ks) ∧ RepK K F ks kvs
  | .obj c fs => ∃ gs, ObjAt K H p c gs ∧ RepF K F gs fs
  | _ => False
section
variable {K : PySem.W.Frag} {F H F' H' : Hp} {p : Addr} {d : D}
theorem Own.grow (g : Grow F H F' H') (o : Own K F H p d) : Own K F' H' p d := by
  cases d with
  | lst ds => obtain ⟨vs, h, r⟩ := o; exact ⟨vs, g.h _ _ h, r.mono g.f⟩
  | dct kvs => obtain ⟨ks, h, r⟩ := o; exact ⟨ks, g.h _ _ h, r.mono g.f⟩
  | obj c fs => obtain ⟨gs, h, r⟩ := o; exact ⟨gs, h.mono g.h, r.mono g.f⟩
  | _ => exact o.elim
theorem Own.there (o : Own K F H p d) : ∃ u, H p = some u := by
  cases d with
  | lst ds => obtain ⟨vs, h, r⟩ := o; exact ⟨_, h⟩
  | dct kvs => obtain ⟨ks, h, r⟩ := o; exact ⟨_, h⟩
  | obj c fs => obtain ⟨gs, ⟨C, dx, _, h⟩, r⟩ := o; exact ⟨_, h⟩
  | _ => exact o.elim
theorem Own.rep (s : Same F H) (o : Own K F H p d) : Rep K H (.ref p) d := by
  cases d with
  | lst ds => obtain ⟨vs, h, r⟩ := o; exact .lst h (r.mono s)
  | dct kvs => obtain ⟨ks, h, r⟩ := o; exact .dct h (r.mono s)
  | obj c fs => obtain ⟨gs, h, r⟩ := o; exact .obj h (r.mono s)
  | _ => exact o.elim
/-- frozen -/
theorem Own.frz (o : Own K F H p d) (hf : F p = none) : ∃ u, H p = some u ∧ Rep K (upd F p u) (.ref p) d := by
  have sm : ∀ u, Same F (upd F p u) := fun u b w e => by rw [upd_ne (ne_of_none e hf)]; exact e
  cases d with
  | lst ds => obtain ⟨vs, h, r⟩ := o; exact ⟨_, h, .lst upd_same (r.mono (sm _))⟩
  | dct kvs => obtain ⟨ks, h, r⟩ := o; exact ⟨_, h, .dct upd_same (r.mono (sm _))⟩
  | obj c fs => obtain ⟨gs, ⟨C, dx, hc, h⟩, r⟩ := o; exact ⟨_, h, .obj ⟨C, dx, hc, upd_same⟩ (r.mono (sm _))⟩
  | _ => exact o.elim
end

def RepC (K : PySem.W.Frag) (B F H : Hp) (v : Option V) : Cell → Prop
  | .no => True
  | .sh d => ∃ x, v = some x ∧ Rep K F x d
  | .ow d z => ∃ p, v = some (.ref p) ∧ B p = none ∧ F p = none ∧ Own K F H p d ∧ ∀ q, z = some q → p = q
structure REnv (K : PySem.W.Frag) (B F0 F H : Hp) (σ : L2.St) (ρ : Env) : Prop where
  bh : Same B H
  f0 : Same F0 F
  fh : Same F H
  fr : ∀ a o, F a = some o → F0 a = some o ∨ B a = none
  len : σ.length = ρ.length
  cell : ∀ (i : Nat) (c : Cell), ρ[i]? = some c → ∃ v, σ[i]? = some v ∧ RepC K B F H v c
  dis : ∀ (i j : Nat) (d e : D) (z y : Option Addr) (p : Addr), i ≠ j → ρ[i]? = some (.ow d z) → ρ[j]? = some (.ow e y) → σ[i]? = some (some (.ref p)) → σ[j]? ≠ some (some (.ref p))
section
variable {K : PySem.W.Frag} {B F0 F H F' H' : Hp} {σ : L2.St} {ρ : Env}
theorem RepC.grow (bh : Same B H) (g : Grow F H F' H') {v : Option V} {c : Cell} (r : RepC K B F H v c) : RepC K B F' H' v c := by
  cases c with
  | no => trivial
  | sh d => obtain ⟨x, e, r⟩ := r; exact ⟨x, e, r.mono g.f⟩
  | ow d z =>
    obtain ⟨p, e, hb, hf, o, hz⟩ := r
    refine ⟨p, e, hb, ?_, o.grow g, hz⟩
    cases q : F' p with
    | none => rfl
    | some u =>
      obtain ⟨w, hw⟩ := o.there
      rcases g.nw p u q with z | z
      · rw [hf] at z; cases z
      · rw [hw] at z; cases z
theorem REnv.grow (r : REnv K B F0 F H σ ρ) (g : Grow F H F' H') : REnv K B F0 F' H' σ ρ where
  bh := r.bh.trans g.h
  f0 := r.f0.trans g.f
  fh := g.fh
  fr := fun a o e => by
    rcases g.nw a o e with q | q
    · exact r.fr a o q
    · exact .inr (r.bh.free q)
  len := r.len
  cell := fun i c e => let ⟨v, h1, h2⟩ := r.cell i c e; ⟨v, h1, h2.grow r.bh g⟩
  dis := r.dis
theorem REnv.gr (r : REnv K B F0 F H σ ρ) : Grow F H F H := Grow.refl r.fh
end

/-- a value read alone; or one's own -/
def Bor (K : PySem.W.Frag) (F H : Hp) (v : V) (d : D) : Prop := Rep K F v d ∨ ∃ p, v = .ref p ∧ Own K F H p d
section
variable {K : PySem.W.Frag} {F H F' H' : Hp} {v : V} {d : D}
theorem Bor.grow (g : Grow F H F' H') (b : Bor K F H v d) : Bor K F' H' v d := by
  rcases b with b | ⟨p, e, o⟩
  · exact .inl (b.mono g.f)
  · exact .inr ⟨p, e, o.grow g⟩
theorem Bor.rep (s : Same F H) (b : Bor K F H v d) : Rep K H v d := by
  rcases b with b | ⟨p, rfl, o⟩
  · exact b.mono s
  · exact o.rep s
theorem Bor.lst (s : Same F H) {ds : List D} (b : Bor K F H v (.lst ds)) : ∃ a vs, v = .ref a ∧ H a = some (.lst vs) ∧ RepL K F vs ds := by
  rcases b with b | ⟨p, rfl, vs, h, r⟩
  · cases b with
    | lst h r => exact ⟨_, _, rfl, s _ _ h, r⟩
  · exact ⟨p, vs, rfl, h, r⟩
theorem Bor.tup (s : Same F H) {ds : List D} (b : Bor K F H v (.tup ds)) : ∃ a vs, v = .ref a ∧ SqT K H a vs ∧ RepL K F vs ds := by
  rcases b with b | ⟨p, rfl, o⟩
  · cases b with
    | tup h r => exact ⟨_, _, rfl, sqT_same s h, r⟩
  · exact o.elim
theorem Bor.int {i : Int} (b : Bor K F H v (.int i)) : v = .int i := by
  rcases b with b | ⟨p, rfl, o⟩
  · cases b; rfl
  · exact o.elim
theorem Bor.str {x : Str} (b : Bor K F H v (.str x)) : v = .str x := by
  rcases b with b | ⟨p, rfl, o⟩
  · cases b; rfl
  · exact o.elim
theorem Bor.bl {x : Bool} (b : Bor K F H v (.bl x)) : v = .bl x := by
  rcases b with b | ⟨p, rfl, o⟩
  · cases b; rfl
  · exact o.elim
theorem Bor.non (b : Bor K F H v .non) : v = .non := by
  rcases b with b | ⟨p, rfl, o⟩
  · cases b; rfl
  · exact o.elim
end
/-- a value with its flag: true: new, and one's own -/
def Val (K : PySem.W.Frag) (F H : Hp) (H0 : Hp) (v : V) (r : D × Bool) : Prop :=
  if r.2 = true then ∃ p, v = .ref p ∧ H0 p = none ∧ F p = none ∧ Own K F H p r.1 else Rep K F v r.1

/-! ### computations -/
/-- an error: its class, its fields -/
structure Xn where
  c : Str
  fs : List (Str × D)
abbrev M (α : Type) := (α → Prop) → (Xn → Prop) → Prop
def ret {α : Type} (a : α) : M α := fun Q _ => Q a
def fail {α : Type} : M α := fun _ _ => False
def bnd {α β : Type} (m : M α) (f : α → M β) : M β := fun Q E => m (fun a => f a Q E) E
/-- what is wanted of an error that leaves: B, F0: the def's entry -/
structure EX where
  B : Hp
  F0 : Hp
  e : Xn → Env → Prop
def EX.at (E : EX) (ρ : Env) : Xn → Prop := fun x => E.e x ρ
/-- .. none may leave -/
def EX.no (E : EX) : EX := ⟨E.B, E.F0, fun _ _ => False⟩
/-- an error in flight -/
def XRep (K : PySem.W.Frag) (F : Hp) (x : Xn) (cls : Value) (dx : Option Addr) : Prop := ∃ C, ClsAt K x.c C ∧ cls = .ref C ∧ ((∃ d gs, dx = some d ∧ F d = some (.xd gs) ∧ RepF K F gs x.fs) ∨ (dx = none ∧ x.fs = []))
theorem XRep.mono {K : PySem.W.Frag} {F F' : Hp} {x : Xn} {cls : Value} {dx : Option Addr} (e : Same F F') (h : XRep K F x cls dx) : XRep K F' x cls dx := by
  obtain ⟨C, h1, h2, ⟨d, gs, h3, h4, h5⟩ | h3⟩ := h
  · exact ⟨C, h1, h2, .inl ⟨d, gs, h3, e _ _ h4, h5.mono e⟩⟩
  · exact ⟨C, h1, h2, .inr h3⟩
def wX (K : PySem.W.Frag) (E : EX) : WX := fun cls dx σ H => ∃ F ρ x, REnv K E.B E.F0 F H σ ρ ∧ XRep K F x cls dx ∧ E.e x ρ
theorem takes_noE {X : Cx} {E : EX} : Takes X (wX X.K E.no) := fun _ _ ⟨_, _, _, _, _, _, _, _, _, _, _, _, _, _, _, _, _, _, _, _, _, w⟩ => w.elim
end DL
namespace DL
open PySem L2

/-! ### trees as the library's data -/
mutual
def D.py : D → Option PyData
  | .non => some .none
  | .bl b => some (.bool b)
  | .int i => some (.int i)
  | .str x => some (.str x)
  | .lst ds => (pyL ds).map .list
  | .tup ds => (pyL ds).map .tuple
  | _ => none
def pyL : List D → Option (List PyData)
  | [] => some []
  | d :: ds => match D.py d, pyL ds with
    | some p, some ps => some (p :: ps)
    | _, _ => none
end
section
variable {K : PySem.W.Frag} {H : Hp}
mutual
theorem Rep.dp : ∀ {d : D} {v : V} {p : PyData}, Rep K H v d → d.py = some p → Dp K H v p
  | .non, _, _, .non, e => by simp only [D.py, Option.some.injEq] at e; subst e; exact .non
  | .bl b, _, _, .bl _, e => by simp only [D.py, Option.some.injEq] at e; subst e; exact .bl b
  | .int i, _, _, .int _, e => by simp only [D.py, Option.some.injEq] at e; subst e; exact .int i
  | .str x, _, _, .str _, e => by simp only [D.py, Option.some.injEq] at e; subst e; exact .str x
  | .lst ds, _, _, .lst h r, e => by
    simp only [D.py] at e
    cases q : pyL ds with
    | none => rw [q] at e; cases e
    | some ps => rw [q] at e; simp only [Option.map_some, Option.some.injEq] at e; subst e; exact .lst (SqL.of h) (RepL.dp r q)
  | .tup ds, _, _, .tup h r, e => by
    simp only [D.py] at e
    cases q : pyL ds with
    | none => rw [q] at e; cases e
    | some ps => rw [q] at e; simp only [Option.map_some, Option.some.injEq] at e; subst e; exact .tup h (RepL.dp r q)
  | .dct _, _, _, _, e => by simp [D.py] at e
  | .obj _ _, _, _, _, e => by simp [D.py] at e
  | .raw _, _, _, _, e => by simp [D.py] at e
  | .gen, _, _, _, e => by simp [D.py] at e
  | .scr _, _, _, _, e => by simp [D.py] at e
theorem RepL.dp : ∀ {ds : List D} {vs : List V} {ps : List PyData}, RepL K H vs ds → pyL ds = some ps → DpAll K H vs ps
  | [], _, _, .nil, e => by simp only [pyL, Option.some.injEq] at e; subst e; exact .nil
  | d :: ds, _, _, .cons r t, e => by
    simp only [pyL] at e
    cases q : D.py d with
    | none => rw [q] at e; simp at e
    | some p =>
      cases q2 : pyL ds with
      | none => rw [q, q2] at e; simp at e
      | some ps' =>
        rw [q, q2] at e
        simp only [Option.some.injEq] at e
        subst e
        exact .cons (Rep.dp r q) (RepL.dp t q2)
end
end

/-! ### truth -/
def truM : D → M Bool
  | .non => ret false
  | .bl b => ret b
  | .int i => ret (i != 0)
  | .str x => fun Q _ => x.length ≤ sizeLine ∧ Q ((x.length : Int) != 0)
  | .lst ds => ret (!ds.isEmpty)
  | .tup ds => ret (!ds.isEmpty)
  | .dct kvs => ret (!kvs.isEmpty)
  | _ => fail
theorem RepK.isEmpty {K : PySem.W.Frag} {H : Hp} {vs : List (Key × V)} {ds : List (D × D)} (r : RepK K H vs ds) : vs.isEmpty = ds.isEmpty := by cases r <;> rfl
theorem truM_ok {K : PySem.W.Frag} {H : Hp} {v : V} {d : D} (r : Rep K H v d) {Q : Bool → Prop} {E : Xn → Prop} (h : truM d Q E) : ∃ k, TruV K v H k ∧ Q k := by
  cases r with
  | non => exact ⟨false, rfl, h⟩
  | bl b => exact ⟨b, rfl, h⟩
  | int i => exact ⟨_, rfl, h⟩
  | str x => exact ⟨_, ⟨h.1, rfl⟩, h.2⟩
  | lst h1 r1 => exact ⟨_, .inl ⟨_, SqL.of h1, rfl⟩, by rw [r1.isEmpty]; exact h⟩
  | tup h1 r1 => exact ⟨_, .inr (.inl ⟨_, h1, rfl⟩), by rw [r1.isEmpty]; exact h⟩
  | dct h1 r1 => exact ⟨_, .inr (.inr ⟨_, h1, rfl⟩), by rw [r1.isEmpty]; exact h⟩
  | raw v => exact (show False from h).elim
  | gen h1 => exact (show False from h).elim
  | scr h1 => exact (show False from h).elim
  | obj h1 r1 => exact (show False from h).elim
  | exn h1 r1 => exact (show False from h).elim

/-! ### operators -/
def binM : Operator → D → D → M (D × Bool)
  | .Add, .int i, .int j => ret (.int (i + j), false)
  | .Add, .str a, .str b => fun Q _ => a.length + b.length ≤ sizeLine ∧ Q (.str (a ++ b), false)
  | .Add, .lst xs, .lst ys => fun Q _ => xs.length + ys.length ≤ sizeLine ∧ Q (.lst (xs ++ ys), true)
  | .Add, .tup xs, .tup ys => fun Q _ => xs.length + ys.length ≤ sizeLine ∧ Q (.tup (xs ++ ys), false)
  | .Sub, .int i, .int j => ret (.int (i - j), false)
  | .Mult, .int i, .int j => fun Q _ => CMul i j ∧ Q (.int (i * j), false)
  | .Mult, .tup xs, .int k => fun Q _ => xs ≠ [] ∧ 2 ≤ k ∧ k ≤ 1000 ∧ xs.length ≤ 1000 ∧ Q (.tup (List.replicate k.toNat xs).flatten, false)
  | .Mult, .lst xs, .int k => fun Q _ => (-(2 ^ 63) ≤ k ∧ k < 2 ^ 63 ∧ xs.length * k.toNat ≤ sizeLine) ∧ Q (.lst (List.replicate k.toNat xs).flatten, true)
  | .Mult, .str x, .int k => fun Q _ => MulOk x k ∧ Q (.str (Txt.mul x k), false)
  | .FloorDiv, .int i, .int j => fun Q _ => CDiv i j ∧ Q (.int (i / j), false)
  | .Mod, .int i, .int j => fun Q _ => 0 < j ∧ Q (.int (i % j), false)
  | .Pow, .int i, .int j => fun Q _ => CPow i j ∧ Q (.int (i ^ j.toNat), false)
  | _, _, _ => fail
/-- an operation on borrowed values, by what it gives -/
def r2 (K : PySem.W.Frag) (m : D → D → M (D × Bool)) : R2 := fun x y H Q => ∃ F dx dy Q2 E, Same F H ∧ Bor K F H x dx ∧ Bor K F H y dy ∧ m dx dy Q2 E ∧
  ∀ v F' H' r, Grow F H F' H' → Val K F' H' H v r → Q2 r → Q v H'
section
variable {K : PySem.W.Frag} {F H F' H' H0 : Hp} {v : V}
theorem Val.of {d : D} (r : Rep K F v d) : Val K F H H0 v (d, false) := by
  unfold Val
  rw [if_neg (show ¬ ((d, false).2 = true) from Bool.false_ne_true)]
  exact r
theorem Val.own {d : D} {p : Addr} (h0 : H0 p = none) (hf : F p = none) (o : Own K F H p d) : Val K F H H0 (.ref p) (d, true) := by
  unfold Val
  rw [if_pos rfl]
  exact ⟨p, rfl, h0, hf, o⟩
theorem Own.mkL {p : Addr} {vs : List V} {ds : List D} (h : H p = some (.lst vs)) (r : RepL K F vs ds) : Own K F H p (.lst ds) := ⟨vs, h, r⟩
theorem RepL.rep {vs : List V} {ds : List D} (r : RepL K H vs ds) : ∀ n : Nat, RepL K H (List.replicate n vs).flatten (List.replicate n ds).flatten
  | 0 => .nil
  | n + 1 => by
    rw [List.replicate_succ, List.replicate_succ, List.flatten_cons, List.flatten_cons]
    exact r.append (RepL.rep r n)
/-- a new list of one's own -/
theorem new_own {Q : VK} {Q2 : D × Bool → Prop} {vs : List V} {ds : List D} (s : Same F H) (r : RepL K F vs ds) (q : Q2 (.lst ds, true)) (k : ∀ v F' H' r, Grow F H F' H' → Val K F' H' H v r → Q2 r → Q v H') : ∀ p, H p = none → Q (.ref p) (upd H p (.lst vs)) :=
  fun p hp => k _ F _ _ (Grow.own s hp _) (Val.own (d := .lst ds) hp (s.free hp) (Own.mkL upd_same r)) q
theorem new_tup {Q : VK} {Q2 : D × Bool → Prop} {vs : List V} {ds : List D} (s : Same F H) (r : RepL K F vs ds) (q : Q2 (.tup ds, false)) (k : ∀ v F' H' r, Grow F H F' H' → Val K F' H' H v r → Q2 r → Q v H') : ∀ p, H p = none → Q (.ref p) (upd H p (.tup vs)) :=
  fun p hp => k _ _ _ _ (Grow.new s hp _) (Val.of (.tup (SqT.of upd_same) (r.mono (Grow.new s hp _).f))) q
end
theorem op_bin {X : Cx} (op : Operator) : OpR X (binaryOp op) (r2 X.K (binM op)) := by
  intro pins s σ H x y v u Q I rx ry h
  obtain ⟨F, dx, dy, Q2, E, sm, bx, by_, h, k⟩ := h
  have same : ∀ {z : V} {d : D}, Rep X.K F z d → Q2 (d, false) → Q z H := fun r q => k _ F H _ (Grow.refl sm) (Val.of r) q
  unfold binM at h
  split at h
  · rename_i i j
    cases bx.int; cases by_.int
    exact op_add pins s σ H _ _ v u Q I rx ry ⟨_, _, rfl, rfl, same (.int _) h⟩
  · rename_i a b
    cases bx.str; cases by_.str
    exact op_add_str pins s σ H _ _ v u Q I rx ry ⟨_, _, rfl, rfl, h.1, same (.str _) h.2⟩
  · rename_i xs ys
    obtain ⟨a, vs, rfl, ha, ra⟩ := bx.lst sm
    obtain ⟨b, ws, rfl, hb, rb⟩ := by_.lst sm
    exact op_cat pins s σ H _ _ v u Q I rx ry ⟨_, _, _, _, rfl, rfl, ha, hb, by rw [ra.length, rb.length]; exact h.1, new_own sm (ra.append rb) h.2 k⟩
  · rename_i xs ys
    obtain ⟨a, vs, rfl, ha, ra⟩ := bx.tup sm
    obtain ⟨b, ws, rfl, hb, rb⟩ := by_.tup sm
    refine op_catA pins s σ H _ _ v u Q I rx ry ⟨_, _, _, _, rfl, rfl, ha, hb, by rw [ra.length, rb.length]; exact h.1, fun e => ?_, fun e e2 => ?_, fun e e2 => new_tup sm (ra.append rb) h.2 k⟩
    · subst e
      cases ra
      rcases by_ with q | ⟨_, _, o⟩
      · exact same q h.2
      · exact o.elim
    · subst e2
      cases rb
      have h2 := h.2
      rw [List.append_nil] at h2
      rcases bx with q | ⟨_, _, o⟩
      · exact same q h2
      · exact o.elim
  · rename_i i j
    cases bx.int; cases by_.int
    exact op_sub pins s σ H _ _ v u Q I rx ry ⟨_, _, rfl, rfl, same (.int _) h⟩
  · rename_i i j
    cases bx.int; cases by_.int
    exact op_mul pins s σ H _ _ v u Q I rx ry ⟨_, _, rfl, rfl, h.1, same (.int _) h.2⟩
  · rename_i xs i
    cases by_.int
    obtain ⟨a, vs, rfl, ha, ra⟩ := bx.tup sm
    obtain ⟨h1, h2, h3, h4, h5⟩ := h
    refine op_repT pins s σ H _ _ v u Q I rx ry ⟨_, _, _, rfl, rfl, ha, fun e => ?_, h2, h3, by rw [ra.length]; exact h4, new_tup sm (ra.rep _) h5 k⟩
    subst e; cases ra; exact h1 rfl
  · rename_i xs i
    cases by_.int
    obtain ⟨a, vs, rfl, ha, ra⟩ := bx.lst sm
    obtain ⟨⟨h1, h2, h3⟩, h5⟩ := h
    exact op_rep pins s σ H _ _ v u Q I rx ry ⟨_, _, _, rfl, rfl, ha, h1, h2, by rw [ra.length]; exact h3, new_own sm (ra.rep _) h5 k⟩
  · rename_i z i
    cases bx.str; cases by_.int
    obtain ⟨t, rfl⟩ := rx
    obtain ⟨t', rfl⟩ := ry
    exact PySem.SB.mul h.1 fun t'' tk => ⟨.str _, H, I.tok _, ⟨_, rfl⟩, same (.str _) h.2⟩
  · rename_i i j
    cases bx.int; cases by_.int
    exact op_fdiv pins s σ H _ _ v u Q I rx ry ⟨_, _, rfl, rfl, h.1, same (.int _) h.2⟩
  · rename_i i j
    cases bx.int; cases by_.int
    exact op_mod pins s σ H _ _ v u Q I rx ry ⟨_, _, rfl, rfl, h.1, same (.int _) h.2⟩
  · rename_i i j
    cases bx.int; cases by_.int
    exact op_pow pins s σ H _ _ v u Q I rx ry ⟨_, _, rfl, rfl, h.1, same (.int _) h.2⟩
  · exact h.elim
end DL
namespace DL
open PySem L2

/-! ### flat values -/
def fl : D → Option PyData
  | .non => some .none
  | .bl b => some (.bool b)
  | .int i => some (.int i)
  | .str x => some (.str x)
  | _ => none
def flL : List D → Option (List PyData)
  | [] => some []
  | d :: ds => match fl d, flL ds with
    | some p, some ps => some (p :: ps)
    | _, _ => none
theorem fl_py {d : D} {p : PyData} (h : fl d = some p) : d.py = some p := by
  cases d <;> simp only [fl] at h <;> first | (simp only [D.py]; exact h) | cases h
section
variable {K : PySem.W.Frag} {H : Hp}
theorem fl_flat {d : D} {v : V} {p : PyData} (r : Rep K H v d) (h : fl d = some p) : flatV v = true := by
  cases r <;> simp only [fl] at h <;> first | rfl | cases h
theorem eqV_eqv {d e : D} {v u : V} {p q : PyData} (r : Rep K H v d) (r' : Rep K H u e) (h : fl d = some p) (h' : fl e = some q) : eqV v u = PyData.eqv p q := by
  cases r <;> simp only [fl, Option.some.injEq] at h <;> first | cases h | skip
  all_goals (try subst h)
  all_goals (cases r' <;> simp only [fl, Option.some.injEq] at h' <;> first | cases h' | skip)
  all_goals (try subst h')
  all_goals (simp only [eqV, PyData.eqv])
theorem flL_flat : ∀ {ds : List D} {vs : List V} {ps : List PyData}, RepL K H vs ds → flL ds = some ps → vs.all flatV = true
  | [], _, _, .nil, _ => rfl
  | d :: ds, _, _, .cons r t, h => by
    simp only [flL] at h
    cases q : fl d with
    | none => rw [q] at h; simp at h
    | some p =>
      cases q2 : flL ds with
      | none => rw [q, q2] at h; simp at h
      | some ps' => rw [List.all_cons, fl_flat r q, flL_flat t q2]; rfl
theorem inV_any {d : D} {v : V} {p : PyData} (r : Rep K H v d) (h : fl d = some p) : ∀ {ds : List D} {vs : List V} {ps : List PyData}, RepL K H vs ds → flL ds = some ps → inV v vs = ps.any fun z => PyData.eqv z p
  | [], _, _, .nil, h' => by simp only [flL, Option.some.injEq] at h'; subst h'; rfl
  | e :: ds, _, _, .cons r' t, h' => by
    simp only [flL] at h'
    cases q : fl e with
    | none => rw [q] at h'; simp at h'
    | some p' =>
      cases q2 : flL ds with
      | none => rw [q, q2] at h'; simp at h'
      | some ps' =>
        rw [q, q2] at h'
        simp only [Option.some.injEq] at h'
        subst h'
        have ih := inV_any r h t q2
        unfold inV at ih ⊢
        rw [List.any_cons, List.any_cons, eqV_eqv r' r q h, ih]
end

/-! ### comparisons -/
def eqM (x y : D) : M Bool := fun Q _ => match fl x, fl y with
  | some p, some q => Q (PyData.eqv p q)
  | _, _ => match x.py, y.py with
    | some p, some q => SeqAt.shaped p = true ∧ SeqAt.shaped q = true ∧ Q (PyData.eqv p q)
    | _, _ => match x, y with
      | .lst xs, .lst ys => xs.length ≠ ys.length ∧ Q false
      | _, _ => False
def inStr (a b : Str) : Bool := !(Builtin.Str.occurrences b a 0 b.length 1).isEmpty
def inM (x : D) (ys : List D) : M Bool := fun Q _ => match fl x, flL ys with
  | some p, some ps => Q (ps.any fun z => PyData.eqv z p)
  | _, _ => match x.py, pyL ys with
    | some p, some ps => SeqAt.shaped p = true ∧ SeqAt.shaped (.list ps) = true ∧ Q (ps.any fun z => PyData.eqv z p)
    | _, _ => False
def isNon : D → M Bool
  | .non => ret true
  | .raw _ => fail
  | _ => ret false
def keyD : D → Option Key
  | .int i => some (.inl i)
  | .str x => some (.inr x)
  | _ => none
/-- what stands under a key -/
def getKD : List (D × D) → Key → Option D
  | [], _ => none
  | (kd, d) :: r, k => if keyD kd = some k then some d else getKD r k
theorem keyD_kD (k : Key) : keyD (kD k) = some k := by cases k <;> rfl
theorem RepK.get {K : PySem.W.Frag} {H : Hp} : ∀ {ks : List (Key × V)} {kvs : List (D × D)} {k : Key}, RepK K H ks kvs → (∀ d, getKD kvs k = some d → ∃ v, valV ks k = some v ∧ Rep K H v d) ∧ (getKD kvs k = none → valV ks k = none)
  | _, _, k, .nil => ⟨fun d h => (by cases h), fun _ => rfl⟩
  | _, _, k, .cons (k := k') (v := v') (d := d') (ks := ks) (kvs := kvs) r t => by
    have ih := RepK.get (k := k) t
    by_cases e : k' = k
    · subst e
      have e1 : getKD ((kD k', d') :: kvs) k' = some d' := by unfold getKD; rw [keyD_kD, if_pos rfl]
      have e2 : valV ((k', v') :: ks) k' = some v' := by unfold valV; rw [List.find?_cons_of_pos (by simp)]; rfl
      rw [e1, e2]
      exact ⟨fun d h => (by cases h; exact ⟨_, rfl, r⟩), fun h => (by cases h)⟩
    · have e1 : getKD ((kD k', d') :: kvs) k = getKD kvs k := by
        conv => lhs; unfold getKD
        rw [keyD_kD, if_neg (fun z => e (Option.some.inj z))]
      have e2 : valV ((k', v') :: ks) k = valV ks k := by unfold valV; rw [List.find?_cons_of_neg (by simpa using e)]
      rw [e1, e2]
      exact ih
theorem key_rep {K : PySem.W.Frag} {F H : Hp} {v : V} {y : D} {k : Key} (b : Bor K F H v y) (h : keyD y = some k) : v = kV k := by
  cases y <;> simp only [keyD, Option.some.injEq, reduceCtorEq] at h
  · subst h; cases b.int; rfl
  · subst h; cases b.str; rfl
theorem RepK.isSome {K : PySem.W.Frag} {H : Hp} {ks : List (Key × V)} {kvs : List (D × D)} {k : Key} (r : RepK K H ks kvs) : (valV ks k).isSome = (getKD kvs k).isSome := by
  obtain ⟨h1, h2⟩ := RepK.get (k := k) r
  cases e : getKD kvs k with
  | none => rw [h2 e]; rfl
  | some d => obtain ⟨v, hv, _⟩ := h1 d e; rw [hv]; rfl
theorem dct_at {K : PySem.W.Frag} {F H : Hp} {v : V} {kvs : List (D × D)} (sm : Same F H) (b : Bor K F H v (.dct kvs)) : ∃ a ks, v = .ref a ∧ H a = some (.dK ks) ∧ RepK K F ks kvs := by
  rcases b with b | ⟨p, rfl, o⟩
  · cases b with
    | dct h1 r1 => exact ⟨_, _, rfl, sm _ _ h1, r1⟩
  · obtain ⟨ks, h1, r1⟩ := o
    exact ⟨_, _, rfl, h1, r1⟩
def cmpM : CmpOp → D → D → M Bool
  | .Eq, x, y => eqM x y
  | .NotEq, x, y => bnd (eqM x y) fun b => ret (!b)
  | .Lt, .int i, .int j => ret (decide (i < j))
  | .LtE, .int i, .int j => ret (decide (i ≤ j))
  | .Gt, .int i, .int j => ret (decide (j < i))
  | .GtE, .int i, .int j => ret (decide (j ≤ i))
  | .Is, x, .non => isNon x
  | .IsNot, x, .non => bnd (isNon x) fun b => ret (!b)
  | .In, .str a, .str b => ret (inStr a b)
  | .NotIn, .str a, .str b => ret (!inStr a b)
  | .In, x, .tup ys => inM x ys
  | .NotIn, x, .tup ys => bnd (inM x ys) fun b => ret (!b)
  | .In, x, .lst ys => inM x ys
  | .NotIn, x, .lst ys => bnd (inM x ys) fun b => ret (!b)
  | .In, y, .dct kvs => fun Q _ => ∃ k, keyD y = some k ∧ Q (getKD kvs k).isSome
  | .NotIn, y, .dct kvs => fun Q _ => ∃ k, keyD y = some k ∧ Q (!(getKD kvs k).isSome)
  | _, _, _ => fail
def rb (K : PySem.W.Frag) (m : D → D → M Bool) : R2 := fun x y H Q => ∃ F dx dy Q2 E, Same F H ∧ Bor K F H x dx ∧ Bor K F H y dy ∧ m dx dy Q2 E ∧ ∀ b, Q2 b → Q (.bl b) H

section
variable {X : Cx}
theorem eq_ok (hu : X.A.units + 64 < cLine) {dx dy : D} {Q2 : Bool → Prop} {E : Xn → Prop} {pins : List (Addr × Obj)} {s : Shared} {σ : L2.St} {H : Hp} {x y : V} {v u : Value} {Q : VK} (I : Inv X pins σ H s) (rx : RelV x v) (ry : RelV y u)
    (r1 : Rep X.K H x dx) (r2 : Rep X.K H y dy) (h : eqM dx dy Q2 E) (k : ∀ b, Q2 b → Q (.bl b) H) : wpAny (model X.prog X.w) X.A (compareOp .Eq v u) (EP X pins σ Q) X.xe s := by
  unfold eqM at h
  split at h
  · rename_i p q e1 e2
    by_cases hs : scal x y = true
    · refine op_eq pins s σ H x y v u Q I rx ry ⟨hs, ?_⟩
      have e3 : decide (x = y) = PyData.eqv p q := by
        rw [← eqV_eqv r1 r2 e1 e2]
        cases x <;> cases y <;> first | (exact absurd hs Bool.false_ne_true) | (simp only [eqV, dec_int, dec_bl, dec_str]) | (simp only [eqV, decide_eq_false_iff_not]; first | (intro z; cases z) | skip) | skip
        all_goals first | rfl | (simp [eqV]) | skip
        all_goals (cases r1; simp [fl] at e1)
      rw [e3]
      exact k _ h
    · refine op_eqD hu pins s σ H x y v u Q I rx ry ⟨p, q, r1.dp (fl_py e1), r2.dp (fl_py e2), ?_, ?_, k _ h⟩
      · cases r1 <;> simp only [fl, Option.some.injEq] at e1 <;> first | cases e1 | skip
        all_goals first | subst e1 | skip
        all_goals first | rfl | skip
        all_goals (cases r2 <;> simp only [fl, Option.some.injEq] at e2 <;> first | cases e2 | skip)
        all_goals (exact absurd rfl hs)
      · cases r2 <;> simp only [fl, Option.some.injEq] at e2 <;> first | cases e2 | skip
        all_goals first | subst e2 | skip
        all_goals first | rfl | skip
        all_goals (cases r1 <;> simp only [fl, Option.some.injEq] at e1 <;> first | cases e1 | skip)
        all_goals (exact absurd rfl hs)
  · split at h
    · rename_i p q e1 e2
      exact op_eqD hu pins s σ H x y v u Q I rx ry ⟨p, q, r1.dp e1, r2.dp e2, h.1, h.2.1, k _ h.2.2⟩
    · split at h
      · rename_i xs ys _ _
        obtain ⟨hne, hq⟩ := h
        cases r1 with
        | lst h1 l1 =>
          cases r2 with
          | lst h2 l2 =>
            cases rx
            cases ry
            obtain ⟨its, rv, p1, _⟩ := I.list (SqL.of h1)
            obtain ⟨its2, rv2, p2, _⟩ := I.list (SqL.of h2)
            have n1 := rv.length
            have n2 := rv2.length
            have n3 := l1.length
            have n4 := l2.length
            exact SeqAt.eq_list_lengthsAt p1.isList p2.isList (by rw [bne_iff_ne, List.size_toArray, List.size_toArray]; omega) (Nat.lt_of_le_of_lt (Nat.le_add_right _ 64) hu) ⟨.bl false, H, I, rfl, k _ hq⟩
      · exact h.elim
theorem ne_ok (hu : X.A.units + 64 < cLine) {dx dy : D} {Q2 : Bool → Prop} {E : Xn → Prop} {pins : List (Addr × Obj)} {s : Shared} {σ : L2.St} {H : Hp} {x y : V} {v u : Value} {Q : VK} (I : Inv X pins σ H s) (rx : RelV x v) (ry : RelV y u)
    (r1 : Rep X.K H x dx) (r2 : Rep X.K H y dy) (h : eqM dx dy Q2 E) (k : ∀ b, Q2 b → Q (.bl (!b)) H) : wpAny (model X.prog X.w) X.A (compareOp .NotEq v u) (EP X pins σ Q) X.xe s := by
  unfold eqM at h
  split at h
  · rename_i p q e1 e2
    by_cases hs : scal x y = true
    · refine op_ne pins s σ H x y v u Q I rx ry ⟨hs, ?_⟩
      have e3 : decide (x = y) = PyData.eqv p q := by
        rw [← eqV_eqv r1 r2 e1 e2]
        cases x <;> cases y <;> first | (exact absurd hs Bool.false_ne_true) | (simp only [eqV, dec_int, dec_bl, dec_str]) | (simp only [eqV, decide_eq_false_iff_not]; first | (intro z; cases z) | skip) | skip
        all_goals first | rfl | (simp [eqV]) | skip
        all_goals (cases r1; simp [fl] at e1)
      rw [e3]
      exact k _ h
    · refine op_neD hu pins s σ H x y v u Q I rx ry ⟨p, q, r1.dp (fl_py e1), r2.dp (fl_py e2), ?_, ?_, k _ h⟩
      · cases r1 <;> simp only [fl, Option.some.injEq] at e1 <;> first | cases e1 | skip
        all_goals first | subst e1 | skip
        all_goals first | rfl | skip
        all_goals (cases r2 <;> simp only [fl, Option.some.injEq] at e2 <;> first | cases e2 | skip)
        all_goals (exact absurd rfl hs)
      · cases r2 <;> simp only [fl, Option.some.injEq] at e2 <;> first | cases e2 | skip
        all_goals first | subst e2 | skip
        all_goals first | rfl | skip
        all_goals (cases r1 <;> simp only [fl, Option.some.injEq] at e1 <;> first | cases e1 | skip)
        all_goals (exact absurd rfl hs)
  · split at h
    · rename_i p q e1 e2
      exact op_neD hu pins s σ H x y v u Q I rx ry ⟨p, q, r1.dp e1, r2.dp e2, h.1, h.2.1, k _ h.2.2⟩
    · split at h
      · rename_i xs ys _ _
        obtain ⟨hne, hq⟩ := h
        cases r1 with
        | lst h1 l1 =>
          cases r2 with
          | lst h2 l2 =>
            cases rx
            cases ry
            obtain ⟨its, rv, p1, _⟩ := I.list (SqL.of h1)
            obtain ⟨its2, rv2, p2, _⟩ := I.list (SqL.of h2)
            have n1 := rv.length
            have n2 := rv2.length
            have n3 := l1.length
            have n4 := l2.length
            exact SeqAt.RcNeAt.lists_lengths p1.isList p2.isList (by rw [bne_iff_ne, List.size_toArray, List.size_toArray]; omega) (Nat.lt_of_le_of_lt (Nat.le_add_right _ 64) hu) _ _ _ _ ⟨.bl true, H, I, rfl, k _ hq⟩
      · exact h.elim
theorem canLay_flat : ∀ {ds : List D} {ps : List PyData}, flL ds = some ps → True := fun _ => trivial
theorem in_ok (hu : X.A.units + 65 < cLine) {dx : D} {ys : List D} {Q2 : Bool → Prop} {E : Xn → Prop} {pins : List (Addr × Obj)} {s : Shared} {σ : L2.St} {F H : Hp} {x : V} {p : Addr} {ws : List V} {v u : Value} {Q : VK} (I : Inv X pins σ H s) (rx : RelV x v) (ry : RelV (.ref p) u)
    (r1 : Rep X.K H x dx) (hp : SqL X.K H p ws ∨ SqT X.K H p ws) (r2 : RepL X.K H ws ys) (neg : Bool) (h : inM dx ys Q2 E) (k : ∀ b, Q2 b → Q (.bl (if neg then !b else b)) H) :
    wpAny (model X.prog X.w) X.A (compareOp (if neg = true then .NotIn else .In) v u) (EP X pins σ Q) X.xe s := by
  unfold inM at h
  split at h
  · rename_i q qs e1 e2
    have e3 := inV_any r1 e1 r2 e2
    cases neg with
    | true => exact op_notIn_seq pins s σ H _ _ v u Q I rx ry ⟨p, ws, rfl, hp, fl_flat r1 e1, flL_flat r2 e2, by rw [e3]; exact k _ h⟩
    | false => exact op_in_seq pins s σ H _ _ v u Q I rx ry ⟨p, ws, rfl, hp, fl_flat r1 e1, flL_flat r2 e2, by rw [e3]; exact k _ h⟩
  · split at h
    · rename_i q qs e1 e2
      obtain ⟨h1, h2, h3⟩ := h
      obtain ⟨as, q1⟩ := Dp.reads I q x v (r1.dp e1) rx
      have fin := k _ h3
      rcases hp with hp | hp
      · obtain ⟨bs, q2⟩ := Dp.reads I (.list qs) (.ref p) u (.lst hp (r2.dp e2)) ry
        cases neg with
        | true => exact SeqAt.notIn_list_reads q2 q1 (SeqAt.canLay_of_shaped h2) (SeqAt.canLay_of_shaped h1) (PyProof.Rows.room_in_shaped h1 hu) ⟨.bl _, H, I, rfl, fin⟩
        | false => exact SeqAt.in_list_reads q2 q1 (SeqAt.canLay_of_shaped h2) (SeqAt.canLay_of_shaped h1) (PyProof.Rows.room_in_shaped h1 hu) ⟨.bl _, H, I, rfl, fin⟩
      · obtain ⟨bs, q2⟩ := Dp.reads I (.tuple qs) (.ref p) u (.tup hp (r2.dp e2)) ry
        have h2' : PyData.canLayAll0 qs = true := SeqAt.canLay_of_shaped h2
        cases neg with
        | true => exact SeqAt.notIn_tuple_reads q2 q1 h2' (SeqAt.canLay_of_shaped h1) (PyProof.Rows.room_in_shaped h1 hu) ⟨.bl _, H, I, rfl, fin⟩
        | false => exact SeqAt.in_tuple_reads q2 q1 h2' (SeqAt.canLay_of_shaped h1) (PyProof.Rows.room_in_shaped h1 hu) ⟨.bl _, H, I, rfl, fin⟩
    · exact h.elim
theorem isNon_ok {d : D} {x : V} {H : Hp} (r : Rep X.K H x d) {Q2 : Bool → Prop} {E : Xn → Prop} (h : isNon d Q2 E) : Q2 (decide (x = .non)) := by
  cases r <;> first | exact h | exact h.elim
theorem op_cmp (hu : X.A.units + 65 < cLine) (op : CmpOp) : OpR X (compareOp op) (rb X.K (cmpM op)) := by
  intro pins s σ H x y v u Q I rx ry h
  obtain ⟨F, dx, dy, Q2, E, sm, bx, by_, h, k⟩ := h
  have hu' : X.A.units + 64 < cLine := by omega
  unfold cmpM at h
  split at h
  · exact eq_ok hu' I rx ry (bx.rep sm) (by_.rep sm) h k
  · exact ne_ok hu' I rx ry (bx.rep sm) (by_.rep sm) h fun b q => k _ q
  · cases bx.int; cases by_.int
    exact op_lt pins s σ H _ _ v u Q I rx ry ⟨_, _, rfl, rfl, k _ h⟩
  · cases bx.int; cases by_.int
    exact op_le pins s σ H _ _ v u Q I rx ry ⟨_, _, rfl, rfl, k _ h⟩
  · cases bx.int; cases by_.int
    exact op_gt pins s σ H _ _ v u Q I rx ry ⟨_, _, rfl, rfl, k _ h⟩
  · cases bx.int; cases by_.int
    exact op_ge pins s σ H _ _ v u Q I rx ry ⟨_, _, rfl, rfl, k _ h⟩
  · cases by_.non
    exact op_isN pins s σ H _ _ v u Q I rx ry ⟨rfl, k _ (isNon_ok (bx.rep sm) h)⟩
  · cases by_.non
    exact op_notN pins s σ H _ _ v u Q I rx ry ⟨rfl, k _ (isNon_ok (Q2 := fun b => Q2 (!b)) (bx.rep sm) h)⟩
  · cases bx.str; cases by_.str
    exact op_in_str pins s σ H _ _ v u Q I rx ry ⟨_, _, rfl, rfl, k _ h⟩
  · cases bx.str; cases by_.str
    exact op_notin_str pins s σ H _ _ v u Q I rx ry ⟨_, _, rfl, rfl, k _ h⟩
  · obtain ⟨a, vs, rfl, ha, ra⟩ := by_.tup sm
    exact in_ok (neg := false) (F := F) hu I rx ry (bx.rep sm) (.inr ha) (ra.mono sm) h fun b q => k _ q
  · obtain ⟨a, vs, rfl, ha, ra⟩ := by_.tup sm
    exact in_ok (neg := true) (F := F) hu I rx ry (bx.rep sm) (.inr ha) (ra.mono sm) (Q2 := fun b => Q2 (!b)) h fun b q => k _ q
  · obtain ⟨a, vs, rfl, ha, ra⟩ := by_.lst sm
    exact in_ok (neg := false) (F := F) hu I rx ry (bx.rep sm) (.inl (SqL.of ha)) (ra.mono sm) h fun b q => k _ q
  · obtain ⟨a, vs, rfl, ha, ra⟩ := by_.lst sm
    exact in_ok (neg := true) (F := F) hu I rx ry (bx.rep sm) (.inl (SqL.of ha)) (ra.mono sm) (Q2 := fun b => Q2 (!b)) h fun b q => k _ q
  · obtain ⟨key, ek, h⟩ := h
    have hv := key_rep bx ek
    subst hv
    obtain ⟨a, ks, rfl, ha, rk⟩ := dct_at sm by_
    cases ry
    have hu1 : X.A.units + 1 < cLine := by omega
    have q : Q (.bl (valV ks key).isSome) H := by rw [rk.isSome]; exact k _ h
    exact d_in (A := X.A) hu1 I (DGet.k (k := key) ha) rx fun s3 I3 => ⟨.bl (valV ks key).isSome, H, I3, rfl, q⟩
  · obtain ⟨key, ek, h⟩ := h
    have hv := key_rep bx ek
    subst hv
    obtain ⟨a, ks, rfl, ha, rk⟩ := dct_at sm by_
    cases ry
    have hu1 : X.A.units + 1 < cLine := by omega
    have q : Q (.bl (!(valV ks key).isSome)) H := by rw [rk.isSome]; exact k _ h
    exact d_notIn (A := X.A) hu1 I (DGet.k (k := key) ha) rx fun s3 I3 => ⟨.bl (!(valV ks key).isSome), H, I3, rfl, q⟩
  · exact h.elim
end

/-! ### places and cuts -/
def cutA {α : Type} (xs : List α) (lo hi : Option Int) : List α := (xs.drop (HT.sIx xs.length 0 lo)).take (HT.sIx xs.length xs.length hi - HT.sIx xs.length 0 lo)
def ixM : D → D → M D
  | .lst ds, .int i => fun Q _ => match atI ds i with | some d => Q d | none => False
  | .tup ds, .int i => fun Q _ => match atI ds i with | some d => Q d | none => False
  | .str z, .int i => fun Q _ => z.length ≤ sizeLine ∧ match atI z.cps.toList i with | some c => Q (.str ⟨#[c]⟩) | none => False
  | _, _ => fail
def slM : D → Option Int → Option Int → M (D × Bool)
  | .lst ds, lo, hi => ret (.lst (cutA ds lo hi), true)
  | .scr ns, lo, hi => ret (.lst ((cutA ns lo hi).map .int), true)
  | .tup ds, lo, hi => ret (.tup (cutA ds lo hi), false)
  | .str z, lo, hi => fun Q _ => z.length ≤ sizeLine ∧ Q (.str (cutS z lo hi), false)
  | _, _, _ => fail
def rd (K : PySem.W.Frag) (m : D → D → M D) : R2 := fun x y H Q => ∃ F dx dy Q2 E, Same F H ∧ Bor K F H x dx ∧ Bor K F H y dy ∧ m dx dy Q2 E ∧ ∀ v d, Rep K F v d → Q2 d → Q v H
def rsl (K : PySem.W.Frag) (m : D → Option Int → Option Int → M (D × Bool)) : V → Option Int → Option Int → Hp → VK → Prop := fun x lo hi H Q => ∃ F dx Q2 E, Same F H ∧ Bor K F H x dx ∧ m dx lo hi Q2 E ∧
  ∀ v F' H' r, Grow F H F' H' → Val K F' H' H v r → Q2 r → Q v H'
section
variable {K : PySem.W.Frag} {H : Hp}
theorem atI_rep {vs : List V} {ds : List D} (r : RepL K H vs ds) {i : Int} {d : D} (h : atI ds i = some d) : ∃ v, atI vs i = some v ∧ Rep K H v d := by
  unfold atI at h ⊢
  rw [r.length]
  cases q : ixN ds.length i with
  | none => rw [q] at h; cases h
  | some j =>
    rw [q] at h
    have h' : ds[j]? = some d := h
    obtain ⟨v, h1, h2⟩ := r.get h'
    exact ⟨v, h1, h2⟩
theorem RepL.cut {vs : List V} {ds : List D} (r : RepL K H vs ds) (lo hi : Option Int) : RepL K H (cutV vs lo hi) (cutA ds lo hi) := by
  unfold cutV cutA
  rw [r.length]
  exact (r.drop _).take _
theorem cut_whole {ds : List D} {lo hi : Option Int} (h : HT.sIx ds.length 0 lo = 0 ∧ HT.sIx ds.length ds.length hi = ds.length) : cutA ds lo hi = ds := by
  unfold cutA
  rw [h.1, h.2]
  simp
end
theorem repL_intsD {K : PySem.W.Frag} {F : Hp} (ns : List Int) : RepL K F (ns.map V.int) (ns.map D.int) := by
  induction ns with
  | nil => exact .nil
  | cons n ns ih => exact .cons (.int n) ih
theorem cut_ints (ns : List Int) (lo hi : Option Int) : cutV (ns.map V.int) lo hi = (cutA ns lo hi).map V.int := by
  unfold cutV cutA
  rw [List.length_map, List.map_take, List.map_drop]
theorem Bor.scr {K : PySem.W.Frag} {F H : Hp} {v : V} {ns : List Int} (s : Same F H) (b : Bor K F H v (.scr ns)) : ∃ a, v = .ref a ∧ SqL K H a (ns.map V.int) := by
  rcases b with b | ⟨p, rfl, o⟩
  · cases b with
    | scr h => exact ⟨_, rfl, (h.mono s).sql⟩
  · exact o.elim
theorem ix_ok {X : Cx} : IxR X (rd X.K ixM) := by
  intro value slice pins s σ H x y v u Q I rx ry h hs
  obtain ⟨F, dx, dy, Q2, E, sm, bx, by_, h, k⟩ := h
  unfold ixM at h
  split at h
  · cases by_.int
    obtain ⟨a, vs, rfl, ha, ra⟩ := bx.lst sm
    split at h
    · rename_i d e
      obtain ⟨w, h1, h2⟩ := atI_rep ra e
      exact ix_list value slice pins s σ H _ _ v u Q I rx ry ⟨_, _, _, _, rfl, rfl, SqL.of ha, h1, k _ _ h2 h⟩ hs
    · exact h.elim
  · cases by_.int
    obtain ⟨a, vs, rfl, ha, ra⟩ := bx.tup sm
    split at h
    · rename_i d e
      obtain ⟨w, h1, h2⟩ := atI_rep ra e
      exact ix_tup value slice pins s σ H _ _ v u Q I rx ry ⟨_, _, _, _, rfl, rfl, ha, h1, k _ _ h2 h⟩ hs
    · exact h.elim
  · cases by_.int
    cases bx.str
    obtain ⟨hz, h⟩ := h
    split at h
    · rename_i c e
      exact ix_str value slice pins s σ H _ _ v u Q I rx ry ⟨_, _, _, rfl, rfl, hz, e, k _ _ (.str _) h⟩ hs
    · exact h.elim
  · exact h.elim
theorem sl_ok {X : Cx} : SlR X (rsl X.K slM) := by
  intro pins s σ H x v vl vu lo hi sl Q I rx hs pl pu h
  obtain ⟨F, dx, Q2, E, sm, bx, h, k⟩ := h
  unfold slM at h
  split at h
  · obtain ⟨a, vs, rfl, ha, ra⟩ := bx.lst sm
    exact sl_list pins s σ H _ v vl vu lo hi sl Q I rx hs pl pu ⟨_, _, rfl, SqL.of ha, new_own sm (ra.cut lo hi) h k⟩
  · rename_i ns
    obtain ⟨a, rfl, ha⟩ := bx.scr sm
    refine sl_list pins s σ H _ v vl vu lo hi sl Q I rx hs pl pu ⟨_, _, rfl, ha, ?_⟩
    rw [cut_ints]
    exact new_own sm (repL_intsD _) h k
  · obtain ⟨a, vs, rfl, ha, ra⟩ := bx.tup sm
    refine sl_tupA pins s σ H _ v vl vu lo hi sl Q I rx hs pl pu ⟨_, _, rfl, ha, fun w => ?_, fun _ => new_tup sm (ra.cut lo hi) h k⟩
    rw [ra.length] at w
    have h' : Q2 (D.tup (cutA _ lo hi), false) := h
    rw [cut_whole w] at h'
    rcases bx with q | ⟨_, _, o⟩
    · exact k _ F H _ (Grow.refl sm) (Val.of q) h'
    · exact o.elim
  · cases bx.str
    exact sl_str pins s σ H _ v vl vu lo hi sl Q I rx hs pl pu ⟨_, rfl, h.1, k _ F H _ (Grow.refl sm) (Val.of (.str _)) h.2⟩
  · exact h.elim
end DL
namespace DL
open PySem L2 PySem.Spec PyProof.Rows

/-! ### defs, called where no repr is under way -/
structure FnG (P : Program) (w : World) (K : PySem.W.Frag) (mg : Str → Option Value) (base : Heap) (CX : CXT) (k : Nat) (f : Addr) (fd : FuncData) (ps : List Str) (sp : Sp) : Prop where
  len : ∀ vs H Q E, sp vs H Q E → vs.length = ps.length
  run : ∀ (A : Around) (outer : List PySem.Env) (s : Shared) (H : Hp) (args : Args) (us : List Value) (vs : List V) (Q : VK) (E : XK), Room k A → A.guards = some [] →
    Env0 P w K mg base A outer s H → BindsTo s fd args (ps.zip us) → Vals vs us → sp vs H Q E →
    codeAny (model P w) A (.call (.ref f) args) (CR CX outer P w H s Q E) s
theorem FnOk.g {P : Program} {w : World} {K : PySem.W.Frag} {mg : Str → Option Value} {base : Heap} {CX : CXT} {k : Nat} {f : Addr} {fd : FuncData} {ps : List Str} {sp : Sp} (F : FnOk P w K mg base CX k f fd ps sp) : FnG P w K mg base CX k f fd ps sp :=
  ⟨F.len, fun A outer s H args us vs Q E hr _ => F.run A outer s H args us vs Q E hr⟩
theorem FnG.imp {P : Program} {w : World} {K : PySem.W.Frag} {mg : Str → Option Value} {base : Heap} {CX : CXT} {k : Nat} {f : Addr} {fd : FuncData} {ps : List Str} {sp sp' : Sp} (F : FnG P w K mg base CX k f fd ps sp)
    (h : ∀ vs H Q E, sp' vs H Q E → sp vs H Q E) : FnG P w K mg base CX k f fd ps sp' :=
  ⟨fun vs H Q E q => F.len vs H Q E (h _ _ _ _ q), fun A outer s H args us vs Q E hr hg he hb hv hs => F.run A outer s H args us vs Q E hr hg he hb hv (h _ _ _ _ hs)⟩
section
variable {P : Program} {w : World} {K : PySem.W.Frag} {mg : Str → Option Value} {base : Heap} {CX : CXT} {x qual : Str} {st : Stmt} {f : Addr} {fd : FuncData} {N ps : List Str} {k : Nat} {sp : Sp}
/-- a def by its body -/
theorem Fun.okG (F : Fun K x qual st f fd) (S : FnScope N ps (defScope st)) (len : ∀ vs H Q E, sp vs H Q E → vs.length = ps.length)
    (body : ∀ (cdv : Value) (A : Around) (outer : List PySem.Env) (s : Shared) (H : Hp) (vs : List V) (Q : VK) (E : XK), Room k (A.deeper (envOfC qual (defScope st) s.heap.objs.size f cdv)) → A.guards = some [] → sp vs H Q E →
      ∃ t, PSs (cxOf CX P w K mg base N qual (defScope st) f cdv A outer s H E) (defBody st) t ∧ t { nx := fun _ H' => Q .non H', rt := Q } (start N vs) H) :
    FnG P w K mg base CX (k + 1) f fd ps sp := by
  obtain ⟨oc, od, kV, doc, pm, an, cdv, ct, osl, rfl, lk, hcd⟩ := F.ex
  refine ⟨len, ?_⟩
  intro A outer s H args us vs Q E room gd e0 hb rv want
  have many := len _ _ _ _ want
  have stays : ∀ b o, base.get? b = some o → s.heap.get? b = some o := fun b o e => (e0.bs b o e).1
  have KX := e0.mod.kin.keeps stays
  have lim := e0.mod.nolimit.keeps stays
  have kinds : ∀ y ∈ ps.zip us, (defScope st).names.lookup y.1 = some .local ∨ ((defScope st).names.lookup y.1 = some .cell ∧ ((cellsFrom (s.heap.objs.size + 1) (defScope st).names []).lookup y.1).isSome = true) := by
    rintro ⟨n, v⟩ hy
    exact (S.par n (List.of_mem_zip hy).1).imp id fun q => ⟨q, PySem.W.cellsFrom_some _ _ _ (.inl q)⟩
  refine codeAny_call_function room.depth (KX _ _ lk) rfl S.co S.gen rfl (PySem.W.codeRec_of KX hcd) (hb _ _ _ _ ?_)
  refine wpAny_newFunctionEnv_cells S.kind kinds ?_
  intro env he s1 x
  subst he
  refine ⟨lim.keeps x.toInCall.keep, codeAny_func ?_⟩
  obtain ⟨t, ht, hq⟩ := body cdv A outer s H vs Q E (room.deeper _) gd want
  have I := inv_start (CX := CX) (E := E) S room.hd e0 many rv x
  refine wpAny_mono (ht.run [] s1 (start N vs) H _ I hq) ?_ fun e s' hs => hs
  intro fl s' hs
  cases fl with
  | ret u =>
    obtain ⟨v, σ', H', J, r', q⟩ := hs
    exact ⟨v, H', J.os, J.bare, J.base, J.hok, r', q⟩
  | next =>
    obtain ⟨σ', H', J, q⟩ := hs
    exact ⟨V.non, H', J.os, J.bare, J.base, J.hok, rfl, q⟩
  | brk => obtain ⟨_, _, _, q⟩ := hs; exact q.elim
  | cont => obtain ⟨_, _, _, q⟩ := hs; exact q.elim
end

section
variable {X : Cx} {CX : CXT} {k : Nat} {f : Addr} {fd : FuncData} {ps ks : List Str} {sp : Sp} {dvs : List V} {ds : List Value} {E : L2.St → XK} {x : Str} {p pos : Pos} {e : Expr} {es : List Expr} {kws : List Keyword} {t tk : TA}
theorem runG {E : XK} {pins : List (Addr × Obj)} {σ : L2.St} {H : Hp} {s : Shared} {Q : VK} {us ws : List Value} {vs : List V} {args : Args} (F : FnG X.prog X.w X.K X.mg X.base CX k f fd ps sp) (hr : Room k X.A) (gd : X.A.guards = some [])
    (hb : BindsTo s fd args (ps.zip us)) (hx : PassesAt CX X σ E) (I : Inv X pins σ H s) (r : Vals vs us) (h : sp vs H Q E) : wpAny (model X.prog X.w) X.A (call (.ref f) args.pos args.kw) (EP X pins σ Q) X.xe s := by
  refine wpAny_call (codeAny_mono (F.run X.A X.stack s H args us vs Q E hr gd I.env0 hb r h) ?_)
  intro r s' hq
  rcases r with e | fl
  · exact hx pins H s e s' I hq
  · cases fl with
    | ret u => exact I.after hq
    | next => exact hq.elim
    | brk => exact hq.elim
    | cont => exact hq.elim
def tCallG (sp : Sp) (dvs : List V) (E : L2.St → XK) (t : TA) : TE := fun σ H Q => t σ H fun vs H1 => sp (vs ++ dvs) H1 Q (E σ)
def tCallGK (sp : Sp) (gV : List V → List V → List V) (E : L2.St → XK) (t tk : TA) : TE := fun σ H Q => t σ H fun vs H1 => tk σ H1 fun zs H2 => sp (gV vs zs) H2 Q (E σ)
/-- f(e, ..) -/
theorem pe_callG (F : FnG X.prog X.w X.K X.mg X.base CX k f fd ps sp) (hr : Room k X.A) (gd : X.A.guards = some []) (hg : Gl X x) (hm : X.mg x = some (.ref f)) (hk : PySem.W.keepIn X.K (.ref f) = true) (hb : Binds X.K fd ps ds) (hd : Vals dvs ds) (hx : ∀ σ, PassesAt CX X σ (E σ))
    (ha : PA X (e :: es) t) (hdb : (x == ("__debug__" : Str)) = false) (he : starEach (e :: es) X.env = (false, eval e X.env) :: starEach es X.env) (hpl : (backTo pos (starEach es X.env)).any (·.1) = false) :
    PE X (.Call (.Name x p) (e :: es) [] pos) (tCallG sp dvs E t) := by
  refine ⟨fun pins s σ H Q I h => wpAny_Call_Name_kw (ld_glob I hg hm ?_ hdb)⟩
  refine PySem.W.callWith_K (h₀ := X.base) I.ok.mod.kin hk (thn (ha.run pos pins s σ H _ I h) ?_) he hpl
  rintro us s1 ⟨vs, H1, I1, r, q⟩
  have r2 : Vals (vs ++ dvs) (us ++ ds) := r.append hd
  have hl : (us ++ ds).length = ps.length := by rw [← r2.length]; exact F.len _ _ _ _ q
  exact ⟨I1.kIn, runG (args := ⟨us, []⟩) (ws := []) F hr gd (hb s1 us I1.kIn hl) (hx σ) I1 r2 q⟩
theorem pe_callG0 (F : FnG X.prog X.w X.K X.mg X.base CX k f fd ps sp) (hr : Room k X.A) (gd : X.A.guards = some []) (hg : Gl X x) (hm : X.mg x = some (.ref f)) (hk : PySem.W.keepIn X.K (.ref f) = true) (hb : Binds X.K fd ps ds) (hd : Vals dvs ds) (hx : ∀ σ, PassesAt CX X σ (E σ))
    (hdb : (x == ("__debug__" : Str)) = false) : PE X (.Call (.Name x p) [] [] pos) (tCallG sp dvs E tNil) := by
  refine ⟨fun pins s σ H Q I h => wpAny_Call_Name_kw (ld_glob I hg hm ?_ hdb)⟩
  have h' : sp ([] ++ dvs) H Q (E σ) := h
  have r2 : Vals ([] ++ dvs) ([] ++ ds) := Vals.append .nil hd
  have hl : ([] ++ ds).length = ps.length := by rw [← r2.length]; exact F.len _ _ _ _ h'
  exact PySem.W.callWith_K0 I.kIn hk (runG (args := ⟨[], []⟩) (ws := []) F hr gd (hb s [] I.kIn hl) (hx σ) I r2 h')
/-- f(e, .., k = v, ..) -/
theorem pe_callGK {g : List Value → List Value → List Value} {gV : List V → List V → List V} (F : FnG X.prog X.w X.K X.mg X.base CX k f fd ps sp) (hr : Room k X.A) (gd : X.A.guards = some []) (hg : Gl X x) (hm : X.mg x = some (.ref f))
    (hk : PySem.W.keepIn X.K (.ref f) = true) (hb : KBinds X.K fd ps ks g gV) (hx : ∀ σ, PassesAt CX X σ (E σ))
    (ha : PA X (e :: es) t) (hkw : PK X kws tk) (hall : (backToKw pos (keywordEach kws X.env)).all (·.1.isSome) = true) (hks : (backToKw pos (keywordEach kws X.env)).filterMap (·.1) = ks)
    (hdb : (x == ("__debug__" : Str)) = false) (he : starEach (e :: es) X.env = (false, eval e X.env) :: starEach es X.env)
    (hpl : ((backTo pos (starEach (e :: es) X.env)).any (·.1) || (backToKw pos (keywordEach kws X.env)).any (·.1.isNone)) = false) :
    PE X (.Call (.Name x p) (e :: es) kws pos) (tCallGK sp gV E t tk) := by
  refine ⟨fun pins s σ H Q I h => wpAny_Call_Name_kw (ld_glob I hg hm ?_ hdb)⟩
  refine PySem.W.callWith_KW (h₀ := X.base) I.ok.mod.kin hk hall (thn (ha.run pos pins s σ H _ I h) ?_) hpl he
  rintro us s1 ⟨vs, H1, I1, r, q⟩
  refine thn (hkw.run pos pins s1 σ H1 _ I1 q) ?_
  rintro ws s2 ⟨zs, H2, I2, rz, q2⟩
  have r2 := hb.rel r rz
  have hl : (g us ws).length = ps.length := by rw [← r2.length]; exact F.len _ _ _ _ q2
  refine ⟨I2.kIn, ?_⟩
  rw [hks]
  exact runG (args := ⟨us, ks.zip ws⟩) (ws := []) F hr gd (hb.to s2 us ws I2.kIn hl) (hx σ) I2 r2 q2
end

/-! ### the law's end -/
theorem cx_no {P : Program} {w : World} {outer : List PySem.Env} {H : Hp} {s s' : Shared} {u : Value} (h : L2.CX P w outer H s (fun _ _ _ => False) u s') : False := by
  obtain ⟨_, _, _, _, _, _, _, _, _, _, _, _, h⟩ := h
  exact h
theorem law_callG {P : Program} {w : World} {K : PySem.W.Frag} {mg mb : Str → Option Value} {k : Nat} {fa a : Addr} {fd : FuncData} {x : Str} {sp : Sp} {s1 : Shared} {vs : List Value} {ns : List Int}
    (KX : K.In s1.heap) (hns : s1.heap.Ns mainGlobals mg) (hb : s1.heap.Ns builtinsNs mb) (hbb : ∀ x : Str, x ≠ "__name__" → mb x = bootBuiltins x) (hlim : s1.heap.NoLimit) (hgn : s1.gens = #[])
    (ha : s1.heap.get? a = some { cls := .type "list", data := .seq vs.toArray }) (hi : IntsAre vs ns) (hl : ns.length ≤ sizeLine) (hr : Room k callerA)
    (F : ∀ base : Heap, K.In base → base.Ns mainGlobals mg → FnG P w K mg base (L2.CX P w) k fa fd [x] sp) (hbind : ∀ (s : Shared) (u : Value), BindsTo s fd ⟨[u], []⟩ [(x, u)])
    (hsp : ∀ H : Hp, Only H → SqL K H a (ns.map V.int) → sp [.ref a] H (fun v _ => v = .bl true) fun _ _ _ => False) :
    codeAny (model P w) callerA (.call (.ref fa) ⟨[.ref a], []⟩) (fun r s' => r = .ok (.ret (.bool true)) ∧ OldK s1.heap s'.heap ∧ s'.os = s1.os ∧ AllBare s'.gens) s1 := by
  have rv := vals_ints hi
  have many := hi.length
  have core : ∀ H : Hp, Only H → SqL K H a (ns.map V.int) → HOk P w H s1.heap → (∀ b, H b ≠ none → b = a) → (H a ≠ none → K.lookup a = none) →
      codeAny (model P w) callerA (.call (.ref fa) ⟨[.ref a], []⟩) (fun r s' => r = .ok (.ret (.bool true)) ∧ OldK s1.heap s'.heap ∧ s'.os = s1.os ∧ AllBare s'.gens) s1 := by
    intro H only seq ok hA hK
    have kept : ∀ {b : Addr} {o : Obj}, s1.heap.get? b = some o → H b = none → (hidT s1.heap H).get? b = some o := fun e n => hidT_get e n
    have dictFree : ∀ {b : Addr} {o : Obj} {es : Array DictEntry} {ep : Nat}, s1.heap.get? b = some o → o.data = .dict es ep → H b = none := by
      intro b o es ep e d
      cases q : H b with
      | none => rfl
      | some u =>
        have e' : b = a := hA b (by rw [q]; simp)
        subst e'
        rw [ha] at e
        cases e
        exact nomatch d
    have nsK : ∀ {b : Addr} {m : Str → Option Value}, s1.heap.Ns b m → (hidT s1.heap H).Ns b m := by
      rintro b m ⟨o, es, ep, e, d, r⟩
      exact ⟨o, es, ep, kept e (dictFree e d), d, r⟩
    have hKb : K.In (hidT s1.heap H) := by
      intro b o e
      refine kept (KX b o e) ?_
      cases q : H b with
      | none => rfl
      | some u =>
        have e' : b = a := hA b (by rw [q]; simp)
        subst e'
        rw [hK (by rw [q]; simp)] at e
        cases e
    obtain ⟨mc, n1, n2⟩ := hlim
    have M : Mod K mg (hidT s1.heap H) := ⟨hKb, nsK hns, ⟨mb, nsK hb, hbb⟩, mc, nsK n1, n2⟩
    have e0 : Env0 P w K mg (hidT s1.heap H) callerA [] s1 H := ⟨rfl, M, fun b o e => of_hidT e, Nat.le_of_eq (hidT_size _ _), trivial, fun b z => (by cases z), ok, .of_eq hgn⟩
    refine codeAny_mono ((F _ hKb (nsK hns)).run callerA [] s1 H ⟨[.ref a], []⟩ [.ref a] [.ref a] _ _ hr rfl e0 (hbind s1 (.ref a)) (.cons rfl .nil) (hsp H only seq)) ?_
    intro r s' h
    rcases r with e | fl
    · exact (cx_no h).elim
    · cases fl with
      | next => exact h.elim
      | brk => exact h.elim
      | cont => exact h.elim
      | ret u =>
        obtain ⟨v, H', os, bare, un, ok', r', q⟩ := h
        obtain rfl : v = V.bl true := q
        obtain rfl : u = Value.bool true := r'
        refine ⟨rfl, OldK.of_keep ?_, os, bare⟩
        intro b o e
        cases q : H b with
        | none => exact un.keep b o e q (fun z => by cases z) (fun z => by cases z)
        | some u =>
          rcases only b with z | ⟨ob, xs, z⟩
          · rw [q] at z; cases z
          · have e1 := (ok b _ z).1
            have e2 := (ok' b _ (un.frzs b ob _ z)).1
            rw [e] at e1
            cases e1
            exact e2
  cases hk : K.lookup a with
  | some o =>
    have e := KX a o hk
    rw [ha] at e
    cases e
    exact core (fun _ => none) (fun _ => .inl rfl) (.inr ⟨_, vs.toArray, _, hk, rfl, rfl, rfl, by rw [List.size_toArray, many]; exact hl, by simpa using rv⟩)
      (fun b u z => nomatch z) (fun b z => (z rfl).elim) fun z => (z rfl).elim
  | none =>
    let ob : Obj := { cls := .type "list", data := .seq vs.toArray }
    refine core (fun b => if b = a then some (.frz ob (.lst (ns.map V.int))) else none) (fun b => ?_) (.inl (.inr ⟨ob, if_pos rfl⟩)) (fun b u z => ?_) (fun b z => ?_) fun _ => hk
    · by_cases hb : b = a
      · exact .inr ⟨_, _, if_pos hb⟩
      · exact .inl (if_neg hb)
    · by_cases hb : b = a
      · obtain rfl : _ = u := Option.some.inj ((if_pos hb).symm.trans z)
        subst hb
        exact ⟨ha, by rw [List.length_map]; exact hl, vs, _, rv, ha⟩
      · exact nomatch (if_neg hb).symm.trans z
    · by_cases hb : b = a
      · exact hb
      · exact (z (if_neg hb)).elim
theorem walkG {l : PySem.W.OpenLaw} {n k : Nat} {q : Program} {loose : List Str} {XP : (Str → Option Value) → Heap → Prop} {YP : World → Heap → Prop} {d : DefRec} {K : Params → PySem.W.Frag} {sp : PySem.W.Frag → Sp} {x : Str}
    (hn : l.most = some n) (hn2 : n ≤ sizeLine) (hdf : d.params.defaults = []) (hr : Room k callerA) (hY : ∀ (w : World) (h : Heap), YP w h → (K w.params).In h)
    (F : ∀ (w : World) (mg : Str → Option Value) (fa : Addr) (h : Heap), (K w.params).In h → h.Ns mainGlobals mg → mg d.name = some (.ref fa) →
      ∃ fd : FuncData, (∀ (s : Shared) (u : Value), BindsTo s fd ⟨[u], []⟩ [(x, u)]) ∧ ∀ base : Heap, (K w.params).In base → base.Ns mainGlobals mg → FnG l.prog w (K w.params) mg base (L2.CX l.prog w) k fa fd [x] (sp (K w.params)))
    (hsp : ∀ (K : PySem.W.Frag) (H : Hp) (a : Addr) (ns : List Int), ns.length ≤ n → Only H → SqL K H a (ns.map V.int) → sp K [.ref a] H (fun v _ => v = .bl true) fun _ _ _ => False) :
    PySem.W.WalkO q loose XP YP l.row.toRowW d [] (fun f vs => PySem.call f vs) := by
  refine Att.attach_call hn hdf ?_
  intro w s₀ s₁ mg mb fa o pm cd doc a vs ns G Y ho hd hcd hmg hobj hints hlen hg
  have KX := hY w _ Y
  obtain ⟨fd, hb, hF⟩ := F w mg fa _ KX G.T.g hmg
  exact law_callG KX G.T.g G.T.b G.T.builtins G.T.nolimit hg hobj hints (Nat.le_trans hlen hn2) hr hF hb fun H only seq => hsp _ H a ns hlen only seq

def pick {α : Type} (is : List Nat) (xs : List α) : List α := is.filterMap fun i => xs[i]?
/-- how a call of so many places and these keywords binds -/
structure KwOk (K : PySem.W.Frag) (fd : FuncData) (ps : List Str) (n : Nat) (ks : List Str) (is : List Nat) : Prop where
  to : ∀ (s : Shared) (us ws : List Value), K.In s.heap → us.length = n → ws.length = ks.length → BindsTo s fd ⟨us, ks.zip ws⟩ (ps.zip (pick is (us ++ ws)))
/-! ### facts of classes -/
/-- what the written part says of an error's class -/
structure XC (K : PySem.W.Frag) (C : Addr) : Prop where
  T : OexC K C
  me : PySem.W.mroIn K C (.ref C) = some true
  ve : PySem.W.subIn K (.ref C) (.type "ValueError") = some true
  su : PySem.W.ks_superIn K C C "__init__" = some (some (.builtin "ValueError.__init__"))
  op : PySem.W.nsIn K cStatics "thirdparty.any" = some none
def spX0 (K : PySem.W.Frag) (C : Addr) : Sp := fun vs H Q _ => ∃ a, vs = [.ref a] ∧ XC K C ∧ H a = some (exo a C none) ∧ Q .non H
def spX1 (K : PySem.W.Frag) (C : Addr) (f : Str) : Sp := fun vs H Q _ => ∃ a v, vs = [.ref a, v] ∧ XC K C ∧ PySem.W.findIn K (.ref C) f = some none ∧ H a = some (exo a C none) ∧ ∀ dx, H dx = none → dx ≠ a → Q .non (upd (upd H dx (exd dx [(f, v)])) a (exo a C (some dx)))
/-- the class of an error and the def of its __init__ -/
structure XMk (P : Program) (w : World) (K : PySem.W.Frag) (mg : Str → Option Value) (base : Heap) (k : Nat) (C fI : Addr) (fd : FuncData) (fo : Option Str) : Prop where
  xc : XC K C
  iC : PySem.W.findIn K (.ref C) "__init__" = some (some (.ref fI))
  tI : PySem.W.typeIn K (.ref fI) = some (.type "function")
  f0 : fo = none → FnG P w K mg base (L2.CX P w) k fI fd ["self"] (spX0 K C) ∧ Binds K fd ["self"] []
  f1 : ∀ f, fo = some f → PySem.W.findIn K (.ref C) f = some none ∧ FnG P w K mg base (L2.CX P w) k fI fd ["self", f] (spX1 K C f) ∧ Binds K fd ["self", f] [] ∧ KwOk K fd ["self", f] 1 [f] [0, 1]
theorem XMk.mono {P : Program} {w : World} {K : PySem.W.Frag} {mg : Str → Option Value} {base : Heap} {k : Nat} {C fI : Addr} {fd : FuncData} {fo : Option Str} (h : XMk P w K mg base k C fI fd fo) : True := trivial
/-- what the written part says of an own class -/
structure ClsX (K : PySem.W.Frag) (C : Addr) : Prop where
  cl : Cls K C
  ca : PySem.W.findIn K (.ref C) "__class__" = some (some (.builtin "object.__class__"))
  cn : PySem.W.specialIn K (.builtin "object.__class__") "__get__" = some (some (.builtin "getset_descriptor.__get__"))
  ct : PySem.W.takesIn K (.builtin "object.__class__") = some true
  cm : PySem.W.mroIn K C (.type "object") = some true
  no : ∀ T ∈ (["bool", "int", "str", "list", "tuple", "dict"] : List String), PySem.W.kitOne K (.ref C) (.type T) = some false
  kc : PySem.W.kitCls K (.type "int") (.ref C) = some false
def ofO {α : Type} [DecidableEq α] (o : Option α) (a : α) : Bool := match o with | some b => decide (b = a) | none => false
/-- .. by one look -/
def clsXB (K : PySem.W.Frag) (C : Addr) : Bool :=
  PySem.W.plainGet K C Str.empty && PySem.W.hasDictIn K C && PySem.W.plainOver K C && decide (PySem.W.findIn K (.ref C) "__setattr__" = some (some (.builtin "object.__setattr__"))) && decide (PySem.W.findIn K (.ref C) "__class__" = some (some (.builtin "object.__class__"))) &&
  decide (PySem.W.specialIn K (.builtin "object.__class__") "__get__" = some (some (.builtin "getset_descriptor.__get__"))) && decide (PySem.W.takesIn K (.builtin "object.__class__") = some true) && decide (PySem.W.mroIn K C (.type "object") = some true) && (["bool", "int", "str", "list", "tuple", "dict"] : List String).all (fun T => decide (PySem.W.kitOne K (.ref C) (.type T) = some false)) && decide (PySem.W.kitCls K (.type "int") (.ref C) = some false)
theorem clsXB_ok {K : PySem.W.Frag} {C : Addr} (h : clsXB K C = true) : ClsX K C := by
  unfold clsXB at h
  simp only [Bool.and_eq_true, decide_eq_true_eq] at h
  obtain ⟨⟨⟨⟨⟨⟨⟨⟨⟨h1, h2⟩, h3⟩, h4⟩, h5⟩, h6⟩, h7⟩, h8⟩, h9⟩, h10⟩ := h
  exact ⟨⟨h1, h2, h3, h4⟩, h5, h6, h7, h8, fun T hT => of_decide_eq_true (List.all_eq_true.mp h9 T hT), h10⟩
end DL
namespace DL
open PySem L2

abbrev CV := Env → M (D × Bool)
abbrev CB := Env → M D
abbrev CT := Env → M Bool
abbrev CL := Env → M (List D)

/-! ### a computation as a reading -/
def rdV (K : PySem.W.Frag) (E : EX) (c : CV) : TE := fun σ H Q' => ∃ F ρ Q, REnv K E.B E.F0 F H σ ρ ∧ c ρ Q (E.at ρ) ∧ ∀ v H' F' r, Grow F H F' H' → Val K F' H' H v r → Q r → Q' v H'
def rdB (K : PySem.W.Frag) (E : EX) (c : CB) : TE := fun σ H Q' => ∃ F ρ Q, REnv K E.B E.F0 F H σ ρ ∧ c ρ Q (E.at ρ) ∧ ∀ v H' F' d, Grow F H F' H' → Bor K F' H' v d → Q d → Q' v H'
def rdF (K : PySem.W.Frag) (E : EX) (c : CB) : TE := fun σ H Q' => ∃ F ρ Q, REnv K E.B E.F0 F H σ ρ ∧ c ρ Q (E.at ρ) ∧ ∀ v H' F' d, Grow F H F' H' → Rep K F' v d → Q d → Q' v H'
def rdT (K : PySem.W.Frag) (E : EX) (c : CT) : TT := fun σ H Q' => ∃ F ρ Q, REnv K E.B E.F0 F H σ ρ ∧ c ρ Q (E.at ρ) ∧ ∀ b H' F', Grow F H F' H' → Q b → Q' b H'
def rdL (K : PySem.W.Frag) (E : EX) (n : Nat) (c : CL) : TA := fun σ H Q' => ∃ F ρ Q, REnv K E.B E.F0 F H σ ρ ∧ c ρ Q (E.at ρ) ∧ ∀ vs H' F' ds, Grow F H F' H' → RepL K F' vs ds → vs.length = n → Q ds → Q' vs H'
inductive BorL (K : PySem.W.Frag) (F H : Hp) : List V → List D → Prop
  | nil : BorL K F H [] []
  | cons {v : V} {d : D} {vs : List V} {ds : List D} : Bor K F H v d → BorL K F H vs ds → BorL K F H (v :: vs) (d :: ds)
theorem BorL.grow {K : PySem.W.Frag} {F H F' H' : Hp} (g : Grow F H F' H') : ∀ {vs : List V} {ds : List D}, BorL K F H vs ds → BorL K F' H' vs ds
  | _, _, .nil => .nil
  | _, _, .cons r t => .cons (r.grow g) (BorL.grow g t)
def rdM (K : PySem.W.Frag) (E : EX) (c : CL) : TA := fun σ H Q' => ∃ F ρ Q, REnv K E.B E.F0 F H σ ρ ∧ c ρ Q (E.at ρ) ∧ ∀ vs H' F' ds, Grow F H F' H' → BorL K F' H' vs ds → Q ds → Q' vs H'

end DL
namespace L2
open PySem
theorem PE.imp {X : Cx} {e : Expr} {t t' : TE} (h : PE X e t) (i : ∀ σ H Q, t' σ H Q → t σ H Q) : PE X e t' := ⟨fun pins s σ H Q I hw => h.run pins s σ H Q I (i σ H Q hw)⟩
theorem PT.imp {X : Cx} {e : Expr} {t t' : TT} (h : PT X e t) (i : ∀ σ H Q, t' σ H Q → t σ H Q) : PT X e t' := ⟨fun pins s σ H Q I hw => h.run pins s σ H Q I (i σ H Q hw)⟩
theorem PW.imp {X : Cx} {e : Expr} {t t' : TT} (h : PW X e t) (i : ∀ σ H Q, t' σ H Q → t σ H Q) : PW X e t' := ⟨fun wh pins s σ H Q I hw => h.run wh pins s σ H Q I (i σ H Q hw)⟩
theorem PA.imp {X : Cx} {es : List Expr} {t t' : TA} (h : PA X es t) (i : ∀ σ H Q, t' σ H Q → t σ H Q) : PA X es t' := ⟨fun pos pins s σ H Q I hw => h.run pos pins s σ H Q I (i σ H Q hw)⟩
theorem PO.imp {X : Cx} {eo : Option Expr} {t t' : TO} (h : PO X eo t) (i : ∀ σ H Q, t' σ H Q → t σ H Q) : PO X eo t' := ⟨fun pins s σ H Q I hw => h.run pins s σ H Q I (i σ H Q hw)⟩
end L2
namespace DL
open PySem L2

/-- one's own is given away -/
def frz (c : CV) : CB := fun ρ => bnd (c ρ) fun r => ret r.1
theorem Val.bor {K : PySem.W.Frag} {F H H0 : Hp} {v : V} {r : D × Bool} (h : Val K F H H0 v r) : Bor K F H v r.1 := by
  unfold Val at h
  split at h
  · obtain ⟨p, rfl, _, _, o⟩ := h
    exact .inr ⟨p, rfl, o⟩
  · exact .inl h
theorem Val.frz {K : PySem.W.Frag} {F H F' H' : Hp} {v : V} {r : D × Bool} (g : Grow F H F' H') (h : Val K F' H' H v r) : ∃ F'', Grow F H F'' H' ∧ Rep K F'' v r.1 := by
  unfold Val at h
  split at h
  · obtain ⟨p, rfl, h0, hf, o⟩ := h
    obtain ⟨u, e, q⟩ := o.frz hf
    exact ⟨_, g.freeze h0 e, q⟩
  · exact ⟨F', g, h⟩
section
variable {X : Cx} {E : EX} {e a b c3 : Expr} {c ca cb cc : CV} {xa xb xc : CB} {ta tb : CT} {es : List Expr} {cl : CL} {pos : Pos}
theorem PE.toF (h : PE X e (rdV X.K E c)) : PE X e (rdF X.K E (frz c)) := h.imp fun σ H Q' ⟨F, ρ, Q, r, h, k⟩ =>
  ⟨F, ρ, _, r, h, fun v H' F' z g w q => by
    obtain ⟨F'', g', r'⟩ := w.frz g
    exact k v H' F'' z.1 g' r' q⟩
theorem PE.toB (h : PE X e (rdV X.K E c)) : PE X e (rdB X.K E (frz c)) := h.imp fun σ H Q' ⟨F, ρ, Q, r, h, k⟩ =>
  ⟨F, ρ, _, r, h, fun v H' F' z g w q => k v H' F' z.1 g w.bor q⟩
theorem PE.FtoB (h : PE X e (rdF X.K E xa)) : PE X e (rdB X.K E xa) := h.imp fun σ H Q' ⟨F, ρ, Q, r, h, k⟩ =>
  ⟨F, ρ, _, r, h, fun v H' F' z g w q => k v H' F' z g (.inl w) q⟩
theorem PE.FtoV (h : PE X e (rdF X.K E xa)) : PE X e (rdV X.K E fun ρ => bnd (xa ρ) fun d => ret (d, false)) := h.imp fun σ H Q' ⟨F, ρ, Q, r, h, k⟩ =>
  ⟨F, ρ, _, r, h, fun v H' F' z g w q => k v H' F' (z, false) g (Val.of w) q⟩

/-! ### names, constants -/
def cC (d : D) : CV := fun _ => ret (d, false)
def cVar (i : Nat) : CV := fun ρ => match ρ[i]? with
  | some (.sh d) => ret (d, false)
  | _ => fail
def bVar (i : Nat) : CB := fun ρ => match ρ[i]? with
  | some (.sh d) => ret d
  | some (.ow d _) => ret d
  | _ => fail
theorem re_const {j : Nat} {d : D} {k : Const} (h : PE X (.Constant k j pos) (tC v)) (r : ∀ F, Rep X.K F v d) : PE X (.Constant k j pos) (rdV X.K E (cC d)) := h.imp fun σ H Q' ⟨F, ρ, Q, re, h, k⟩ =>
  k v H F (d, false) re.gr (Val.of (r F)) h
theorem re_var {i : Nat} {x : Str} (hN : X.N[i]? = some x) (hv : Vis X.env.scope x) (hd : (x == ("__debug__" : Str)) = false) (hcd : (x == ("__classdict__" : Str)) = false) : PE X (.Name x pos) (rdV X.K E (cVar i)) :=
  (pe_var hN hv hd hcd).imp fun σ H Q' ⟨F, ρ, Q, re, h, k⟩ => by
    unfold cVar at h
    cases e : ρ[i]? with
    | none => rw [e] at h; exact (show False from h).elim
    | some cell =>
      rw [e] at h
      cases cell with
      | no => exact (show False from h).elim
      | ow d z => exact (show False from h).elim
      | sh d =>
        obtain ⟨v, h1, x, rfl, h2⟩ := re.cell i _ e
        exact ⟨x, h1, k x H F (d, false) re.gr (Val.of h2) h⟩
theorem re_bvar {i : Nat} {x : Str} (hN : X.N[i]? = some x) (hv : Vis X.env.scope x) (hd : (x == ("__debug__" : Str)) = false) (hcd : (x == ("__classdict__" : Str)) = false) : PE X (.Name x pos) (rdB X.K E (bVar i)) :=
  (pe_var hN hv hd hcd).imp fun σ H Q' ⟨F, ρ, Q, re, h, k⟩ => by
    unfold bVar at h
    cases e : ρ[i]? with
    | none => rw [e] at h; exact (show False from h).elim
    | some cell =>
      rw [e] at h
      cases cell with
      | no => exact (show False from h).elim
      | sh d =>
        obtain ⟨v, h1, x, rfl, h2⟩ := re.cell i _ e
        exact ⟨x, h1, k x H F d re.gr (.inl h2) h⟩
      | ow d z =>
        obtain ⟨v, h1, p, rfl, _, _, h2, _⟩ := re.cell i _ e
        exact ⟨_, h1, k _ H F d re.gr (.inr ⟨p, rfl, h2⟩) h⟩

end
theorem Val.back {K : PySem.W.Frag} {F H F' H' F2 H2 : Hp} {v : V} {r : D × Bool} (g : Grow F H F' H') (h : Val K F2 H2 H' v r) : Val K F2 H2 H v r := by
  unfold Val at h ⊢
  split at h
  · rename_i hr
    rw [if_pos hr]
    obtain ⟨p, e, h0, hf, o⟩ := h
    exact ⟨p, e, g.h.free h0, hf, o⟩
  · rename_i hr
    rw [if_neg hr]
    exact h
/-- the value behind more that has grown -/
theorem Val.grow {K : PySem.W.Frag} {F H F' H' H0 : Hp} {v : V} {r : D × Bool} (g : Grow F H F' H') (h : Val K F H H0 v r) : Val K F' H' H0 v r := by
  unfold Val at h ⊢
  split at h
  · rename_i hr
    rw [if_pos hr]
    obtain ⟨p, e, h0, hf, o⟩ := h
    refine ⟨p, e, h0, ?_, o.grow g⟩
    cases q : F' p with
    | none => rfl
    | some u =>
      obtain ⟨w, hw⟩ := o.there
      rcases g.nw p u q with z | z
      · rw [hf] at z; cases z
      · rw [hw] at z; cases z
  · rename_i hr
    rw [if_neg hr]
    exact h.mono g.f
section
variable {X : Cx} {E : EX} {e a b c3 : Expr} {c ca cb cc : CV} {xa xb xc : CB} {ta tb : CT} {es : List Expr} {cl : CL} {pos : Pos}
/-! ### operators -/
def cBin (op : Operator) (a b : CB) : CV := fun ρ => bnd (a ρ) fun x => bnd (b ρ) fun y => binM op x y
theorem re_bin {op : Operator} (ha : PE X a (rdB X.K E xa)) (hb : PE X b (rdB X.K E xb)) : PE X (.BinOp a op b pos) (rdV X.K E (cBin op xa xb)) :=
  (pe_op (op_bin op) ha hb).imp fun σ H Q' ⟨F, ρ, Q, re, h, k⟩ =>
    ⟨F, ρ, _, re, h, fun v H1 F1 d g1 b1 h1 => ⟨F1, ρ, _, re.grow g1, h1, fun u H2 F2 d2 g2 b2 h2 =>
      ⟨F2, d, d2, Q, _, g2.fh, b1.grow g2, b2, h2, fun w F3 H3 r g3 v3 q => k w H3 F3 r ((g1.trans g2).trans g3) (v3.back (g1.trans g2)) q⟩⟩⟩
def cNeg (a : CB) : CV := fun ρ => bnd (a ρ) fun x => match x with
  | .int i => ret (.int (-i), false)
  | _ => fail
theorem re_neg (ha : PE X a (rdB X.K E xa)) : PE X (.UnaryOp .USub a pos) (rdV X.K E (cNeg xa)) :=
  (pe_un un_neg ha).imp fun σ H Q' ⟨F, ρ, Q, re, h, k⟩ => ⟨F, ρ, _, re, h, fun v H1 F1 d g1 b1 h1 => by
    cases d with
    | int i =>
      cases b1.int
      exact ⟨i, rfl, k _ H1 F1 (.int (-i), false) g1 (Val.of (.int _)) h1⟩
    | _ => exact h1.elim⟩
def cNot (a : CB) : CV := fun ρ => bnd (a ρ) fun x => bnd (truM x) fun k => ret (.bl (!k), false)
theorem re_not (ha : PE X a (rdB X.K E xa)) : PE X (.UnaryOp .Not a pos) (rdV X.K E (cNot xa)) :=
  (pe_notT ha).imp fun σ H Q' ⟨F, ρ, Q, re, h, k⟩ => ⟨F, ρ, _, re, h, fun v H1 F1 d g1 b1 h1 => by
    obtain ⟨b, t, q⟩ := truM_ok (b1.rep g1.fh) h1
    exact ⟨b, t, k _ H1 F1 (.bl (!b), false) g1 (Val.of (.bl _)) q⟩⟩
def cAnd (a b : CV) : CV := fun ρ => bnd (a ρ) fun r => bnd (truM r.1) fun k => if k = true then b ρ else ret r
def cOr (a b : CV) : CV := fun ρ => bnd (a ρ) fun r => bnd (truM r.1) fun k => if k = true then ret r else b ρ
theorem re_and {rest : List Expr} (ha : PE X a (rdV X.K E ca)) (hb : PE X (.BoolOp .And (b :: rest) pos) (rdV X.K E cb)) : PE X (.BoolOp .And (a :: b :: rest) pos) (rdV X.K E (cAnd ca cb)) :=
  (pe_andT ha hb).imp fun σ H Q' ⟨F, ρ, Q, re, h, k⟩ => ⟨F, ρ, _, re, h, fun v H1 F1 r g1 v1 h1 => by
    obtain ⟨t, tr, q⟩ := truM_ok (v1.bor.rep g1.fh) h1
    refine ⟨t, tr, ?_⟩
    cases t with
    | true => exact ⟨F1, ρ, Q, re.grow g1, q, fun w H2 F2 r2 g2 v2 q2 => k w H2 F2 r2 (g1.trans g2) (v2.back g1) q2⟩
    | false => exact k v H1 F1 r g1 v1 q⟩
theorem re_or {rest : List Expr} (ha : PE X a (rdV X.K E ca)) (hb : PE X (.BoolOp .Or (b :: rest) pos) (rdV X.K E cb)) : PE X (.BoolOp .Or (a :: b :: rest) pos) (rdV X.K E (cOr ca cb)) :=
  (pe_orT ha hb).imp fun σ H Q' ⟨F, ρ, Q, re, h, k⟩ => ⟨F, ρ, _, re, h, fun v H1 F1 r g1 v1 h1 => by
    obtain ⟨t, tr, q⟩ := truM_ok (v1.bor.rep g1.fh) h1
    refine ⟨t, tr, ?_⟩
    cases t with
    | false => exact ⟨F1, ρ, Q, re.grow g1, q, fun w H2 F2 r2 g2 v2 q2 => k w H2 F2 r2 (g1.trans g2) (v2.back g1) q2⟩
    | true => exact k v H1 F1 r g1 v1 q⟩
def cIf (t : CT) (a b : CV) : CV := fun ρ => bnd (t ρ) fun k => if k = true then a ρ else b ρ
theorem re_if {t : Expr} (ht : PT X t (rdT X.K E ta)) (ha : PE X a (rdV X.K E ca)) (hb : PE X b (rdV X.K E cb)) : PE X (.IfExp t a b pos) (rdV X.K E (cIf ta ca cb)) :=
  (pe_ifExp ht ha hb).imp fun σ H Q' ⟨F, ρ, Q, re, h, k⟩ => ⟨F, ρ, _, re, h, fun t H1 F1 g1 h1 => by
    cases t with
    | true => exact ⟨F1, ρ, Q, re.grow g1, h1, fun w H2 F2 r2 g2 v2 q2 => k w H2 F2 r2 (g1.trans g2) (v2.back g1) q2⟩
    | false => exact ⟨F1, ρ, Q, re.grow g1, h1, fun w H2 F2 r2 g2 v2 q2 => k w H2 F2 r2 (g1.trans g2) (v2.back g1) q2⟩⟩

/-! ### comparisons -/
def tCm (op : CmpOp) (a b : CB) : CT := fun ρ => bnd (a ρ) fun x => bnd (b ρ) fun y => cmpM op x y
def tCh (op op' : CmpOp) (a b c : CB) : CT := fun ρ => bnd (a ρ) fun x => bnd (b ρ) fun y => bnd (cmpM op x y) fun k => if k = true then bnd (c ρ) fun z => cmpM op' y z else ret false
def vT (t : CT) : CV := fun ρ => bnd (t ρ) fun k => ret (.bl k, false)
theorem rd_cm {op : CmpOp} {σ : L2.St} {H : Hp} {Q' : VK} {Qb : Bool → Hp → Prop} (hq : ∀ b H', Qb b H' → Q' (.bl b) H') (h : rdT X.K E (tCm op xa xb) σ H Qb) : tOp (rb X.K (cmpM op)) (rdB X.K E xa) (rdB X.K E xb) σ H Q' := by
  obtain ⟨F, ρ, Q, re, h, k⟩ := h
  exact ⟨F, ρ, _, re, h, fun v H1 F1 d g1 b1 h1 => ⟨F1, ρ, _, re.grow g1, h1, fun u H2 F2 d2 g2 b2 h2 =>
    ⟨F2, d, d2, Q, _, g2.fh, b1.grow g2, b2, h2, fun b q => hq _ _ (k b H2 F2 (g1.trans g2) q)⟩⟩⟩
theorem rd_ch {op op' : CmpOp} {σ : L2.St} {H : Hp} {Q' : VK} {Qb : Bool → Hp → Prop} (hq : ∀ b H', Qb b H' → Q' (.bl b) H') (h : rdT X.K E (tCh op op' xa xb xc) σ H Qb) :
    tChain (rb X.K (cmpM op)) (rb X.K (cmpM op')) (rdB X.K E xa) (rdB X.K E xb) (rdB X.K E xc) σ H Q' := by
  obtain ⟨F, ρ, Q, re, h, k⟩ := h
  exact ⟨F, ρ, _, re, h, fun v H1 F1 d g1 b1 h1 => ⟨F1, ρ, _, re.grow g1, h1, fun u H2 F2 d2 g2 b2 h2 =>
    ⟨F2, d, d2, _, _, g2.fh, b1.grow g2, b2, h2, fun b q => ⟨b, rfl, by
      cases b with
      | true => exact ⟨F2, ρ, _, (re.grow g1).grow g2, q, fun w H3 F3 d3 g3 b3 h3 => ⟨F3, d2, d3, Q, _, g3.fh, b2.grow g3, b3, h3, fun b q => hq _ _ (k b H3 F3 ((g1.trans g2).trans g3) q)⟩⟩
      | false => exact hq _ _ (k false H2 F2 (g1.trans g2) q)⟩⟩⟩⟩
theorem rdV_vT {t : CT} {σ : L2.St} {H : Hp} {Q' : VK} (h : rdV X.K E (vT t) σ H Q') : rdT X.K E t σ H fun b H' => Q' (.bl b) H' := by
  obtain ⟨F, ρ, Q, re, h, k⟩ := h
  exact ⟨F, ρ, _, re, h, fun b H1 F1 g1 q => k (.bl b) H1 F1 (.bl b, false) g1 (Val.of (.bl b)) q⟩
theorem re_cm {op : CmpOp} (hu : X.A.units + 65 < cLine) (ha : PE X a (rdB X.K E xa)) (hb : PE X b (rdB X.K E xb)) (hm : behindInMarks op b = false) : PE X (.Compare a [op] [b] pos) (rdV X.K E (vT (tCm op xa xb))) :=
  (pe_cmpR (op_cmp hu op) ha hb hm).imp fun σ H Q' h => rd_cm (fun _ _ q => q) (rdV_vT h)
theorem re_ch {op op' : CmpOp} (hu : X.A.units + 65 < cLine) (ha : PE X a (rdB X.K E xa)) (hb : PE X b (rdB X.K E xb)) (hc : PE X c3 (rdB X.K E xc)) (hm : lastMarks [op, op'] [b, c3] = false) :
    PE X (.Compare a [op, op'] [b, c3] pos) (rdV X.K E (vT (tCh op op' xa xb xc))) :=
  (pe_chain (op_cmp hu op) (op_cmp hu op') ha hb hc hm).imp fun σ H Q' h => rd_ch (fun _ _ q => q) (rdV_vT h)
theorem rt_cm {op : CmpOp} (hu : X.A.units + 65 < cLine) (ha : PE X a (rdB X.K E xa)) (hb : PE X b (rdB X.K E xb)) (hm : behindInMarks op b = false) : PT X (.Compare a [op] [b] pos) (rdT X.K E (tCm op xa xb)) :=
  (pt_cmpR (op_cmp hu op) ha hb hm).imp fun σ H Q' h => rd_cm (Q' := fun x H' => ∃ k, x = .bl k ∧ Q' k H') (fun b H' q => ⟨b, rfl, q⟩) h
theorem rt_ch {op op' : CmpOp} (hu : X.A.units + 65 < cLine) (ha : PE X a (rdB X.K E xa)) (hb : PE X b (rdB X.K E xb)) (hc : PE X c3 (rdB X.K E xc)) (hm : lastMarks [op, op'] [b, c3] = false) :
    PT X (.Compare a [op, op'] [b, c3] pos) (rdT X.K E (tCh op op' xa xb xc)) :=
  (pt_chain (op_cmp hu op) (op_cmp hu op') ha hb hc hm).imp fun σ H Q' h => rd_ch (Q' := fun x H' => ∃ k, x = .bl k ∧ Q' k H') (fun b H' q => ⟨b, rfl, q⟩) h

/-! ### tests -/
def tTru (a : CB) : CT := fun ρ => bnd (a ρ) truM
def tNo (a : CT) : CT := fun ρ => bnd (a ρ) fun k => ret (!k)
def tAn (a b : CT) : CT := fun ρ => bnd (a ρ) fun k => if k = true then b ρ else ret false
def tOr' (a b : CT) : CT := fun ρ => bnd (a ρ) fun k => if k = true then ret true else b ρ
theorem rt_tru (ha : PE X a (rdB X.K E xa)) (he : ∀ whole, isTrue a X.env whole = (do let v ← whole; standAt a.pos; holding [v] (truthy v))) : PT X a (rdT X.K E (tTru xa)) :=
  (pt_truth ha he).imp fun σ H Q' ⟨F, ρ, Q, re, h, k⟩ => ⟨F, ρ, _, re, h, fun v H1 F1 d g1 b1 h1 => by
    obtain ⟨b, t, q⟩ := truM_ok (b1.rep g1.fh) h1
    exact ⟨b, t, k b H1 F1 g1 q⟩⟩
theorem rt_not (ha : PT X a (rdT X.K E ta)) : PT X (.UnaryOp .Not a pos) (rdT X.K E (tNo ta)) :=
  (pt_not ha).imp fun σ H Q' ⟨F, ρ, Q, re, h, k⟩ => ⟨F, ρ, _, re, h, fun b H1 F1 g1 q => k (!b) H1 F1 g1 q⟩
theorem rw_and {rest : List Expr} (ha : PT X a (rdT X.K E ta)) (hb : PW X (.BoolOp .And (b :: rest) pos) (rdT X.K E tb)) : PW X (.BoolOp .And (a :: b :: rest) pos) (rdT X.K E (tAn ta tb)) :=
  (pw_and ha hb).imp fun σ H Q' ⟨F, ρ, Q, re, h, k⟩ => ⟨F, ρ, _, re, h, fun b H1 F1 g1 q => by
    cases b with
    | true => exact ⟨F1, ρ, Q, re.grow g1, q, fun b H2 F2 g2 q2 => k b H2 F2 (g1.trans g2) q2⟩
    | false => exact k false H1 F1 g1 q⟩
theorem rw_or {rest : List Expr} (ha : PT X a (rdT X.K E ta)) (hb : PW X (.BoolOp .Or (b :: rest) pos) (rdT X.K E tb)) : PW X (.BoolOp .Or (a :: b :: rest) pos) (rdT X.K E (tOr' ta tb)) :=
  (pw_or ha hb).imp fun σ H Q' ⟨F, ρ, Q, re, h, k⟩ => ⟨F, ρ, _, re, h, fun b H1 F1 g1 q => by
    cases b with
    | false => exact ⟨F1, ρ, Q, re.grow g1, q, fun b H2 F2 g2 q2 => k b H2 F2 (g1.trans g2) q2⟩
    | true => exact k true H1 F1 g1 q⟩

/-! ### lists of values -/
def cNil : CL := fun _ => ret []
def cCons (a : CB) (l : CL) : CL := fun ρ => bnd (a ρ) fun d => bnd (l ρ) fun ds => ret (d :: ds)
theorem rl_nil : PA X [] (rdL X.K E 0 cNil) := pa_nil.imp fun σ H Q' ⟨F, ρ, Q, re, h, k⟩ => k [] H F [] re.gr .nil rfl h
theorem rl_cons {n : Nat} (ha : PE X a (rdF X.K E xa)) (hl : PA X es (rdL X.K E n cl)) (hs : starEach (a :: es) X.env = (false, eval a X.env) :: starEach es X.env) : PA X (a :: es) (rdL X.K E (n + 1) (cCons xa cl)) :=
  (pa_cons ha hl hs).imp fun σ H Q' ⟨F, ρ, Q, re, h, k⟩ => ⟨F, ρ, _, re, h, fun v H1 F1 d g1 b1 h1 => ⟨F1, ρ, _, re.grow g1, h1, fun vs H2 F2 ds g2 r2 hn q =>
    k (v :: vs) H2 F2 (d :: ds) (g1.trans g2) (.cons (b1.mono g2.f) r2) (by rw [List.length_cons, hn]) q⟩⟩
theorem rm_nil : PA X [] (rdM X.K E cNil) := pa_nil.imp fun σ H Q' ⟨F, ρ, Q, re, h, k⟩ => k [] H F [] re.gr .nil h
theorem rm_cons (ha : PE X a (rdB X.K E xa)) (hl : PA X es (rdM X.K E cl)) (hs : starEach (a :: es) X.env = (false, eval a X.env) :: starEach es X.env) : PA X (a :: es) (rdM X.K E (cCons xa cl)) :=
  (pa_cons ha hl hs).imp fun σ H Q' ⟨F, ρ, Q, re, h, k⟩ => ⟨F, ρ, _, re, h, fun v H1 F1 d g1 b1 h1 => ⟨F1, ρ, _, re.grow g1, h1, fun vs H2 F2 ds g2 r2 q =>
    k (v :: vs) H2 F2 (d :: ds) (g1.trans g2) (.cons (b1.grow g2) r2) q⟩⟩
def cTup (l : CL) : CV := fun ρ => bnd (l ρ) fun ds Q _ => ds.length ≤ sizeLine ∧ Q (.tup ds, false)
def cLst (l : CL) : CV := fun ρ => bnd (l ρ) fun ds Q _ => ds.length ≤ sizeLine ∧ Q (.lst ds, true)
theorem re_tup {j n : Nat} (hl : PA X es (rdL X.K E n cl)) : PE X (.Tuple es j pos) (rdV X.K E (cTup cl)) :=
  (pe_tup hl).imp fun σ H Q' ⟨F, ρ, Q, re, h, k⟩ => ⟨F, ρ, _, re, h, fun vs H1 F1 ds g1 r1 _ q => ⟨by rw [r1.length]; exact q.1,
    new_tup g1.fh r1 q.2 fun w F2 H2 r g2 v2 q2 => k w H2 F2 r (g1.trans g2) (v2.back g1) q2⟩⟩
theorem re_lst {n : Nat} (hl : PA X es (rdL X.K E n cl)) : PE X (.List es pos) (rdV X.K E (cLst cl)) :=
  (pe_lst hl).imp fun σ H Q' ⟨F, ρ, Q, re, h, k⟩ => ⟨F, ρ, _, re, h, fun vs H1 F1 ds g1 r1 _ q => ⟨by rw [r1.length]; exact q.1,
    new_own g1.fh r1 q.2 fun w F2 H2 r g2 v2 q2 => k w H2 F2 r (g1.trans g2) (v2.back g1) q2⟩⟩

/-! ### subscripts -/
def cIx (a b : CB) : CV := fun ρ => bnd (a ρ) fun x => bnd (b ρ) fun y => bnd (ixM x y) fun d => ret (d, false)
theorem re_ix (ha : PE X a (rdB X.K E xa)) (hb : PE X b (rdB X.K E xb)) (hs : PlainIx b) : PE X (.Subscript a b pos) (rdV X.K E (cIx xa xb)) :=
  (pe_ix ix_ok ha hb hs).imp fun σ H Q' ⟨F, ρ, Q, re, h, k⟩ =>
    ⟨F, ρ, _, re, h, fun v H1 F1 d g1 b1 h1 => ⟨F1, ρ, _, re.grow g1, h1, fun u H2 F2 d2 g2 b2 h2 =>
      ⟨F2, d, d2, _, _, g2.fh, b1.grow g2, b2, h2, fun w d3 r3 q => k w H2 F2 (d3, false) (g1.trans g2) (Val.of r3) q⟩⟩⟩
abbrev CO := Env → M (Option Int)
def oNo : CO := fun _ => ret none
def oIs (a : CB) : CO := fun ρ => bnd (a ρ) fun x => match x with
  | .int i => ret (some i)
  | _ => fail
def rdO (K : PySem.W.Frag) (E : EX) (c : CO) : TO := fun σ H Q' => ∃ F ρ Q, REnv K E.B E.F0 F H σ ρ ∧ c ρ Q (E.at ρ) ∧ ∀ o H' F', Grow F H F' H' → Q o → Q' o H'
theorem ro_no : PO X none (rdO X.K E oNo) := PO.imp po_none fun σ H Q' ⟨F, ρ, Q, re, h, k⟩ => k none H F re.gr h
theorem ro_is (ha : PE X a (rdB X.K E xa)) : PO X (some a) (rdO X.K E (oIs xa)) := PO.imp (po_some ha) fun σ H Q' ⟨F, ρ, Q, re, h, k⟩ => ⟨F, ρ, _, re, h, fun v H1 F1 d g1 b1 h1 => by
  cases d with
  | int i =>
    cases b1.int
    exact ⟨i, rfl, k _ H1 F1 g1 h1⟩
  | _ => exact h1.elim⟩
def cSl (a : CB) (lo hi : CO) : CV := fun ρ => bnd (a ρ) fun x => bnd (lo ρ) fun l => bnd (hi ρ) fun u => slM x l u
theorem re_sl {lo hi : Option Expr} {p2 : Pos} {ol oh : CO} (ha : PE X a (rdB X.K E xa)) (hl : PO X lo (rdO X.K E ol)) (hh : PO X hi (rdO X.K E oh)) : PE X (.Subscript a (.Slice lo hi none p2) pos) (rdV X.K E (cSl xa ol oh)) :=
  (pe_slice sl_ok ha hl hh).imp fun σ H Q' ⟨F, ρ, Q, re, h, k⟩ =>
    ⟨F, ρ, _, re, h, fun v H1 F1 d g1 b1 h1 => ⟨F1, ρ, _, re.grow g1, h1, fun l H2 F2 g2 h2 => ⟨F2, ρ, _, (re.grow g1).grow g2, h2, fun u H3 F3 g3 h3 =>
      ⟨F3, d, Q, _, g3.fh, b1.grow (g2.trans g3), h3, fun w F4 H4 r g4 v4 q => k w H4 F4 r (((g1.trans g2).trans g3).trans g4) (v4.back ((g1.trans g2).trans g3)) q⟩⟩⟩⟩
end
end DL
namespace DL
open PySem L2

/-! ### a def called -/
def SpF (fl : Bool) (K : PySem.W.Frag) (n : Nat) (m : List D → M D) : Sp := fun vs H Q E => vs.length = n ∧ ∃ F ds QD ED, Same F H ∧ RepL K F vs ds ∧ m ds QD ED ∧ (∀ v H' F' d, Grow F H F' H' → Val K F' H' H v (d, fl) → QD d → Q v H') ∧
  ∀ x cls dx H' F', Grow F H F' H' → XRep K F' x cls dx → ED x → E cls dx H'
abbrev SpM := SpF false
/-- a def whose first argument is an own thing of the caller's, which it may change -/
abbrev MO := D → List D → (D → D → Prop) → (Xn → D → Prop) → Prop
def SpO (K : PySem.W.Frag) (n : Nat) (mo : MO) : Sp := fun vs H Q E => ∃ p rest, vs = .ref p :: rest ∧ vs.length = n ∧ ∃ F ds d0 QD ED, Same F H ∧ F p = none ∧ Own K F H p d0 ∧ RepL K F rest ds ∧ mo d0 ds QD ED ∧
  (∀ v H' F' d d1, Grow F (del H p) F' H' → F' p = none → Own K F' H' p d1 → Rep K F' v d → QD d d1 → Q v H') ∧ ∀ x cls dx H' F' d1, Grow F (del H p) F' H' → F' p = none → Own K F' H' p d1 → XRep K F' x cls dx → ED x d1 → E cls dx H'
theorem Val.rep {K : PySem.W.Frag} {F H H0 : Hp} {v : V} {d : D} (h : Val K F H H0 v (d, false)) : Rep K F v d := by
  unfold Val at h
  rw [if_neg (show ¬ ((d, false).2 = true) from Bool.false_ne_true)] at h
  exact h
def callD (n : Nat) (m : List D → M D) (ds : List D) : M (D × Bool) := fun Q E => ds.length = n ∧ m ds (fun d => Q (d, false)) E
def callF (fl : Bool) (n : Nat) (m : List D → M D) (ds : List D) : M (D × Bool) := fun Q E => ds.length = n ∧ m ds (fun d => Q (d, fl)) E
def cCall (n : Nat) (m : List D → M D) (l : CL) : CV := fun ρ => bnd (l ρ) fun ds => callD n m ds
def cCallF (fl : Bool) (n : Nat) (m : List D → M D) (l : CL) : CV := fun ρ => bnd (l ρ) fun ds => callF fl n m ds
/-- the places of a call's values in the order of the parameters -/
def cCallK (n : Nat) (is : List Nat) (m : List D → M D) (l k : CL) : CV := fun ρ => bnd (l ρ) fun ds => bnd (k ρ) fun es => callD n m (pick is (ds ++ es))
def cCallKF (fl : Bool) (n : Nat) (is : List Nat) (m : List D → M D) (l k : CL) : CV := fun ρ => bnd (l ρ) fun ds => bnd (k ρ) fun es => callF fl n m (pick is (ds ++ es))
theorem RepL.pick {K : PySem.W.Frag} {F : Hp} {vs : List V} {ds : List D} (r : RepL K F vs ds) : ∀ is : List Nat, RepL K F (pick is vs) (pick is ds)
  | [] => .nil
  | i :: is => by
    have ih := RepL.pick r is
    unfold DL.pick at ih ⊢
    cases h : vs[i]? with
    | none =>
      have h2 : ds[i]? = none := by
        rw [List.getElem?_eq_none_iff] at h ⊢
        rw [← r.length]; exact h
      rw [List.filterMap_cons_none h, List.filterMap_cons_none h2]
      exact ih
    | some v =>
      obtain ⟨d, h2, q⟩ := r.getV h
      rw [List.filterMap_cons_some h, List.filterMap_cons_some h2]
      exact .cons q ih
theorem vals_pick {vs : List V} {us : List Value} (r : Vals vs us) : ∀ is : List Nat, Vals (pick is vs) (pick is us)
  | [] => .nil
  | i :: is => by
    have ih := vals_pick r is
    unfold DL.pick at ih ⊢
    cases h : vs[i]? with
    | none => rw [List.filterMap_cons_none h, List.filterMap_cons_none (r.none_of h)]; exact ih
    | some v =>
      obtain ⟨u, h2, q⟩ := r.get h
      rw [List.filterMap_cons_some h, List.filterMap_cons_some h2]
      exact .cons q ih
section
variable {X : Cx} {E : EX} {e a b c3 : Expr} {c ca cb cc : CV} {xa xb xc : CB} {ta tb : CT} {es : List Expr} {cl ck : CL} {pos p : Pos} {k : Nat} {f : Addr} {fd : FuncData} {ps ks : List Str} {x : Str} {m : List D → M D} {kws : List Keyword} {fl : Bool}
theorem sp_of {H H1 F F1 : Hp} {Q : D × Bool → Prop} {Q' : VK} {vs : List V} {ds : List D} {ED : Xn → Prop} {W : XK} (kq : ∀ v H' F' r, Grow F H F' H' → Val X.K F' H' H v r → Q r → Q' v H') (g1 : Grow F H F1 H1) (r1 : RepL X.K F1 vs ds) (h : callF fl ps.length m ds Q ED)
    (ke : ∀ x cls dx H' F', Grow F H F' H' → XRep X.K F' x cls dx → ED x → W cls dx H') : SpF fl X.K ps.length m vs H1 Q' W :=
  ⟨by rw [r1.length]; exact h.1, F1, ds, _, ED, g1.fh, r1, h.2, fun v H2 F2 d g2 r2 q2 => kq v H2 F2 (d, fl) (g1.trans g2) (r2.back g1) q2, fun x cls dx H2 F2 g2 xr q2 => ke x cls dx H2 F2 (g1.trans g2) xr q2⟩
/-- an error of a callee in our air -/
theorem REnv.err {σ : L2.St} {H F : Hp} {ρ : Env} (re : REnv X.K E.B E.F0 F H σ ρ) : ∀ (x : Xn) (cls : Value) (dx : Option Addr) (H' F' : Hp), Grow F H F' H' → XRep X.K F' x cls dx → E.at ρ x → WE (wX X.K E) σ cls dx H' :=
  fun x cls dx H' F' g xr q => ⟨F', ρ, x, re.grow g, xr, q⟩
theorem re_call (F : FnG X.prog X.w X.K X.mg X.base (L2.CX X.prog X.w) k f fd ps (SpF fl X.K ps.length m)) (hr : Room k X.A) (gd : X.A.guards = some []) (hg : Gl X x) (hm : X.mg x = some (.ref f)) (hk : PySem.W.keepIn X.K (.ref f) = true) (hb : Binds X.K fd ps []) (tk : Takes X (wX X.K E))
    {n : Nat} (hl : PA X (e :: es) (rdL X.K E n cl)) (hdb : (x == ("__debug__" : Str)) = false) (hs : starEach (e :: es) X.env = (false, eval e X.env) :: starEach es X.env) (hpl : (backTo pos (starEach es X.env)).any (·.1) = false) :
    PE X (.Call (.Name x p) (e :: es) [] pos) (rdV X.K E (cCallF fl ps.length m cl)) :=
  (pe_callG F hr gd hg hm hk hb .nil (fun σ => passAt tk σ) hl hdb hs hpl).imp fun σ H Q' ⟨F, ρ, Q, re, h, kq⟩ => ⟨F, ρ, _, re, h, fun vs H1 F1 ds g1 r1 _ q => by
    show SpF fl X.K ps.length m (vs ++ []) H1 Q' _
    rw [List.append_nil]
    exact sp_of kq g1 r1 q re.err⟩
theorem re_call0 (F : FnG X.prog X.w X.K X.mg X.base (L2.CX X.prog X.w) k f fd ps (SpF fl X.K ps.length m)) (hr : Room k X.A) (gd : X.A.guards = some []) (hg : Gl X x) (hm : X.mg x = some (.ref f)) (hk : PySem.W.keepIn X.K (.ref f) = true) (hb : Binds X.K fd ps []) (tk : Takes X (wX X.K E))
    (hdb : (x == ("__debug__" : Str)) = false) : PE X (.Call (.Name x p) [] [] pos) (rdV X.K E (cCallF fl ps.length m cNil)) :=
  (pe_callG0 F hr gd hg hm hk hb .nil (fun σ => passAt tk σ) hdb).imp fun σ H Q' ⟨F, ρ, Q, re, h, kq⟩ => sp_of kq re.gr .nil h re.err
theorem rk_nil : PK X [] (rdL X.K E 0 cNil) := ⟨fun pos pins s σ H Q' I ⟨F, ρ, Q, re, h, k⟩ => pk_nil.run pos pins s σ H Q' I (k [] H F [] re.gr .nil rfl h)⟩
theorem rk_cons {n : Nat} {nm : Option Str} {kp : Pos} (ha : PE X a (rdF X.K E xa)) (hl : PK X kws (rdL X.K E n cl)) : PK X (⟨nm, a, kp⟩ :: kws) (rdL X.K E (n + 1) (cCons xa cl)) :=
  ⟨fun pos pins s σ H Q' I ⟨F, ρ, Q, re, h, k⟩ => (pk_cons ha hl).run pos pins s σ H Q' I ⟨F, ρ, _, re, h, fun v H1 F1 d g1 b1 h1 => ⟨F1, ρ, _, re.grow g1, h1, fun vs H2 F2 ds g2 r2 hn q =>
    k (v :: vs) H2 F2 (d :: ds) (g1.trans g2) (.cons (b1.mono g2.f) r2) (by rw [List.length_cons, hn]) q⟩⟩⟩
theorem kw_pairs (env : PySem.Env) : ∀ l : List Keyword, keywordEach l env = l.map fun k => (k.arg, eval k.value env)
  | [] => rfl
  | ⟨n1, v1, p1⟩ :: l => by
    show (n1, eval v1 env) :: keywordEach l env = _
    rw [kw_pairs env l]
    rfl
theorem kw_names {env : PySem.Env} (hks : kws.map (·.arg) = ks.map some) : (backToKw pos (keywordEach kws env)).map (·.1) = ks.map some := by
  rw [kw_pairs, ← hks]
  unfold backToKw
  rw [List.map_map, List.map_map]
  rfl
theorem kw_all {env : PySem.Env} (hks : kws.map (·.arg) = ks.map some) : (backToKw pos (keywordEach kws env)).all (·.1.isSome) = true := by
  rw [List.all_eq_true]
  intro z hz
  have := List.mem_map_of_mem (f := (·.1)) hz
  rw [kw_names hks] at this
  obtain ⟨y, _, e⟩ := List.mem_map.mp this
  rw [← e]; rfl
theorem kw_keys {env : PySem.Env} (hks : kws.map (·.arg) = ks.map some) : (backToKw pos (keywordEach kws env)).filterMap (·.1) = ks := by
  have : (backToKw pos (keywordEach kws env)).filterMap (·.1) = ((backToKw pos (keywordEach kws env)).map (·.1)).filterMap id := by rw [List.filterMap_map]; rfl
  rw [this, kw_names hks, List.filterMap_map]
  show ks.filterMap (fun z => some z) = ks
  rw [List.filterMap_some]
theorem kw_none {env : PySem.Env} (hks : kws.map (·.arg) = ks.map some) : (backToKw pos (keywordEach kws env)).any (·.1.isNone) = false := by
  rw [List.any_eq_false]
  intro z hz
  have := List.all_eq_true.mp (kw_all hks) z hz
  cases q : z.1 with
  | none => rw [q] at this; cases this
  | some y => exact Bool.false_ne_true
theorem kw_fin {n : Nat} {is : List Nat} (F : FnG X.prog X.w X.K X.mg X.base (L2.CX X.prog X.w) k f fd ps (SpF fl X.K ps.length m)) (hr : Room k X.A) (gd : X.A.guards = some []) (hb : KwOk X.K fd ps n ks is) {W : XK}
    {pins : List (Addr × Obj)} {σ : L2.St} {H F0 : Hp} {Q : D × Bool → Prop} {Q' : VK} (kq : ∀ v H' F' r, Grow F0 H F' H' → Val X.K F' H' H v r → Q r → Q' v H')
    {s2 : Shared} {us ws : List Value} {vs zs : List V} {ds dz : List D} {H1 F1 : Hp} (I2 : Inv X pins σ H1 s2) (rv : Vals vs us) (rz : Vals zs ws) (g1 : Grow F0 H F1 H1) (r1 : RepL X.K F1 vs ds) (r2 : RepL X.K F1 zs dz) (e1 : vs.length = n) (e2 : zs.length = ks.length)
    {ED : Xn → Prop} (hx : PassesAt (L2.CX X.prog X.w) X σ W) (q : callF fl ps.length m (pick is (ds ++ dz)) Q ED)
    (ke : ∀ x cls dx H' F', Grow F0 H F' H' → XRep X.K F' x cls dx → ED x → W cls dx H') : wpAny (model X.prog X.w) X.A (call (.ref f) us (ks.zip ws)) (EP X pins σ Q') X.xe s2 :=
  runG (args := ⟨us, ks.zip ws⟩) (ws := []) F hr gd (hb.to s2 us ws I2.kIn (by rw [← rv.length]; exact e1) (by rw [← rz.length]; exact e2)) hx I2 (vals_pick (rv.append rz) is) (sp_of kq g1 ((r1.append r2).pick is) q ke)
theorem re_callK {n : Nat} {is : List Nat} (F : FnG X.prog X.w X.K X.mg X.base (L2.CX X.prog X.w) k f fd ps (SpF fl X.K ps.length m)) (hr : Room k X.A) (gd : X.A.guards = some []) (hg : Gl X x) (hm : X.mg x = some (.ref f)) (hk : PySem.W.keepIn X.K (.ref f) = true) (hb : KwOk X.K fd ps n ks is) (tk : Takes X (wX X.K E))
    (hl : PA X (e :: es) (rdL X.K E n cl)) (hkw : PK X kws (rdL X.K E ks.length ck)) (hs : starEach (e :: es) X.env = (false, eval e X.env) :: starEach es X.env) (hpl : (backTo pos (starEach (e :: es) X.env)).any (·.1) = false)
    (hks : kws.map (·.arg) = ks.map some) (hdb : (x == ("__debug__" : Str)) = false) :
    PE X (.Call (.Name x p) (e :: es) kws pos) (rdV X.K E (cCallKF fl ps.length is m cl ck)) := by
  refine ⟨fun pins s σ H Q' I hw => ?_⟩
  obtain ⟨Fz, ρ, Q, re, h, kq⟩ := hw
  refine wpAny_Call_Name_kw (ld_glob I hg hm ?_ hdb)
  refine PySem.W.callWith_KW (h₀ := X.base) I.ok.mod.kin hk (kw_all hks) (thn (hl.run pos pins s σ H (fun vs H1 => ∃ F1 ds, Grow Fz H F1 H1 ∧ RepL X.K F1 vs ds ∧ vs.length = n ∧ ck ρ (fun es => callF fl ps.length m (pick is (ds ++ es)) Q (E.at ρ)) (E.at ρ)) I
    ⟨Fz, ρ, _, re, h, fun vs H1 F1 ds g1 r1 hn q => ⟨F1, ds, g1, r1, hn, q⟩⟩) ?_) (by rw [hpl, kw_none hks]; rfl) hs
  rintro us s1 ⟨vs, H1, I1, rv, F1, ds, g1, r1, hn, q⟩
  refine thn (hkw.run pos pins s1 σ H1 (fun zs H2 => ∃ F2 dz, Grow F1 H1 F2 H2 ∧ RepL X.K F2 zs dz ∧ zs.length = ks.length ∧ callF fl ps.length m (pick is (ds ++ dz)) Q (E.at ρ)) I1
    ⟨F1, ρ, _, re.grow g1, q, fun zs H2 F2 dz g2 r2 hn2 q2 => ⟨F2, dz, g2, r2, hn2, q2⟩⟩) ?_
  rintro ws s2 ⟨zs, H2, I2, rz, F2, dz, g2, r2, hn2, q2⟩
  refine ⟨I2.kIn, ?_⟩
  rw [kw_keys hks]
  exact kw_fin F hr gd hb kq I2 rv rz (g1.trans g2) (r1.mono g2.f) r2 hn hn2 (passAt tk σ) q2 re.err
theorem re_callK0 {is : List Nat} (F : FnG X.prog X.w X.K X.mg X.base (L2.CX X.prog X.w) k f fd ps (SpF fl X.K ps.length m)) (hr : Room k X.A) (gd : X.A.guards = some []) (hg : Gl X x) (hm : X.mg x = some (.ref f)) (hk : PySem.W.keepIn X.K (.ref f) = true) (hb : KwOk X.K fd ps 0 ks is) (tk : Takes X (wX X.K E))
    (hkw : PK X kws (rdL X.K E ks.length ck)) (hks : kws.map (·.arg) = ks.map some) (hdb : (x == ("__debug__" : Str)) = false) :
    PE X (.Call (.Name x p) [] kws pos) (rdV X.K E (cCallKF fl ps.length is m cNil ck)) := by
  refine ⟨fun pins s σ H Q' I hw => ?_⟩
  obtain ⟨Fz, ρ, Q, re, h, kq⟩ := hw
  refine wpAny_Call_Name_kw (ld_glob I hg hm ?_ hdb)
  refine PySem.W.callWith_KW0 (h₀ := X.base) I.ok.mod.kin hk (kw_all hks) (thn (hkw.run pos pins s σ H (fun zs H2 => ∃ F2 dz, Grow Fz H F2 H2 ∧ RepL X.K F2 zs dz ∧ zs.length = ks.length ∧ callF fl ps.length m (pick is ([] ++ dz)) Q (E.at ρ)) I
    ⟨Fz, ρ, _, re, h, fun zs H2 F2 dz g2 r2 hn2 q2 => ⟨F2, dz, g2, r2, hn2, q2⟩⟩) ?_) (by rw [kw_none hks]; rfl)
  rintro ws s2 ⟨zs, H2, I2, rz, F2, dz, g2, r2, hn2, q2⟩
  refine ⟨I2.kIn, ?_⟩
  rw [kw_keys hks]
  exact kw_fin (us := []) (vs := []) (ds := []) F hr gd hb kq I2 .nil rz g2 .nil r2 rfl hn2 (passAt tk σ) q2 re.err
end
end DL
namespace DL
open PySem L2

/-! ### built-ins, by what they give -/
def rcM (K : PySem.W.Frag) (m : List D → M (D × Bool)) : List V → Hp → VK → Prop := fun vs H Q => ∃ F ds Q2 E, Same F H ∧ BorL K F H vs ds ∧ m ds Q2 E ∧
  ∀ v F' H' r, Grow F H F' H' → Val K F' H' H v r → Q2 r → Q v H'
def cB (m : List D → M (D × Bool)) (l : CL) : CV := fun ρ => bnd (l ρ) fun ds => m ds
theorem call_rcM {X : Cx} {E : EX} {cl : CL} {σ : L2.St} {H : Hp} {Q' : VK} {m : List D → M (D × Bool)} (h : rdV X.K E (cB m cl) σ H Q') : tCB (rcM X.K m) (rdM X.K E cl) σ H Q' := by
  obtain ⟨F, ρ, Q, re, h, k⟩ := h
  exact ⟨F, ρ, _, re, h, fun vs H1 F1 ds g1 b1 q => ⟨F1, ds, Q, _, g1.fh, b1, q, fun v F2 H2 r g2 v2 q2 => k v H2 F2 r (g1.trans g2) (v2.back g1) q2⟩⟩
section
variable {X : Cx} {E : EX} {e : Expr} {es : List Expr} {cl : CL} {x : Str} {p pos : Pos} {m : List D → M (D × Bool)} {id T : String}
theorem re_callB (hc : CallR X (.builtin id) (rcM X.K m)) (hg : Gl X x) (hm : X.mg x = none) (hv : bootBuiltins x = some (.builtin id)) (ha : PA X (e :: es) (rdM X.K E cl)) (hn : x ≠ "__name__") (hdb : (x == ("__debug__" : Str)) = false)
    (hs : starEach (e :: es) X.env = (false, eval e X.env) :: starEach es X.env) (hpl : (backTo pos (starEach es X.env)).any (·.1) = false) : PE X (.Call (.Name x p) (e :: es) [] pos) (rdV X.K E (cB m cl)) :=
  (pe_callB hc hg hm hv ha hn hdb hs hpl).imp fun σ H Q' h => call_rcM h
theorem re_callT (hc : CallR X (.type T) (rcM X.K m)) (hg : Gl X x) (hm : X.mg x = none) (hv : bootBuiltins x = some (.type T)) (ha : PA X (e :: es) (rdM X.K E cl)) (hn : x ≠ "__name__") (hdb : (x == ("__debug__" : Str)) = false)
    (hs : starEach (e :: es) X.env = (false, eval e X.env) :: starEach es X.env) (hpl : (backTo pos (starEach es X.env)).any (·.1) = false) : PE X (.Call (.Name x p) (e :: es) [] pos) (rdV X.K E (cB m cl)) :=
  (pe_callTy hc hg hm hv ha hn hdb hs hpl).imp fun σ H Q' h => call_rcM h
end

def intsD : List D → Option (List Int)
  | [] => some []
  | .int i :: r => (intsD r).map (i :: ·)
  | _ => none
def blsD : List D → Option (List Bool)
  | [] => some []
  | .bl i :: r => (blsD r).map (i :: ·)
  | _ => none
def strsD : List D → Option (List Str)
  | [] => some []
  | .str i :: r => (strsD r).map (i :: ·)
  | _ => none
section
variable {K : PySem.W.Frag} {F H : Hp}
theorem RepL.ints : ∀ {ds : List D} {vs : List V} {ns : List Int}, RepL K H vs ds → intsD ds = some ns → vs = ns.map V.int
  | [], _, _, .nil, e => by simp only [intsD, Option.some.injEq] at e; subst e; rfl
  | .int i :: ds, _, _, .cons (.int _) t, e => by
    simp only [intsD] at e
    cases q : intsD ds with
    | none => rw [q] at e; cases e
    | some ns => rw [q] at e; simp only [Option.map_some, Option.some.injEq] at e; subst e; rw [RepL.ints t q]; rfl
  | .non :: _, _, _, _, e | .bl _ :: _, _, _, _, e | .str _ :: _, _, _, _, e | .lst _ :: _, _, _, _, e | .tup _ :: _, _, _, _, e | .dct _ :: _, _, _, _, e | .obj _ _ :: _, _, _, _, e | .exn _ _ :: _, _, _, _, e | .raw _ :: _, _, _, _, e | .gen :: _, _, _, _, e | .scr _ :: _, _, _, _, e => by simp [intsD] at e
theorem RepL.bls : ∀ {ds : List D} {vs : List V} {ns : List Bool}, RepL K H vs ds → blsD ds = some ns → vs = ns.map V.bl
  | [], _, _, .nil, e => by simp only [blsD, Option.some.injEq] at e; subst e; rfl
  | .bl i :: ds, _, _, .cons (.bl _) t, e => by
    simp only [blsD] at e
    cases q : blsD ds with
    | none => rw [q] at e; cases e
    | some ns => rw [q] at e; simp only [Option.map_some, Option.some.injEq] at e; subst e; rw [RepL.bls t q]; rfl
  | .non :: _, _, _, _, e | .int _ :: _, _, _, _, e | .str _ :: _, _, _, _, e | .lst _ :: _, _, _, _, e | .tup _ :: _, _, _, _, e | .dct _ :: _, _, _, _, e | .obj _ _ :: _, _, _, _, e | .exn _ _ :: _, _, _, _, e | .raw _ :: _, _, _, _, e | .gen :: _, _, _, _, e | .scr _ :: _, _, _, _, e => by simp [blsD] at e
theorem RepL.strs : ∀ {ds : List D} {vs : List V} {ns : List Str}, RepL K H vs ds → strsD ds = some ns → vs = ns.map V.str
  | [], _, _, .nil, e => by simp only [strsD, Option.some.injEq] at e; subst e; rfl
  | .str i :: ds, _, _, .cons (.str _) t, e => by
    simp only [strsD] at e
    cases q : strsD ds with
    | none => rw [q] at e; cases e
    | some ns => rw [q] at e; simp only [Option.map_some, Option.some.injEq] at e; subst e; rw [RepL.strs t q]; rfl
  | .non :: _, _, _, _, e | .int _ :: _, _, _, _, e | .bl _ :: _, _, _, _, e | .lst _ :: _, _, _, _, e | .tup _ :: _, _, _, _, e | .dct _ :: _, _, _, _, e | .obj _ _ :: _, _, _, _, e | .exn _ _ :: _, _, _, _, e | .raw _ :: _, _, _, _, e | .gen :: _, _, _, _, e | .scr _ :: _, _, _, _, e => by simp [strsD] at e
theorem repL_ints (ns : List Int) : RepL K H (ns.map V.int) (ns.map D.int) := by
  induction ns with
  | nil => exact .nil
  | cons n ns ih => exact .cons (.int n) ih
theorem repL_strs (ns : List Str) : RepL K H (ns.map V.str) (ns.map D.str) := by
  induction ns with
  | nil => exact .nil
  | cons n ns ih => exact .cons (.str n) ih
end
theorem BorL.one {K : PySem.W.Frag} {F H : Hp} {vs : List V} {d : D} (b : BorL K F H vs [d]) : ∃ v, vs = [v] ∧ Bor K F H v d := by
  cases b with
  | cons r t => cases t; exact ⟨_, rfl, r⟩
theorem BorL.two {K : PySem.W.Frag} {F H : Hp} {vs : List V} {d e : D} (b : BorL K F H vs [d, e]) : ∃ v u, vs = [v, u] ∧ Bor K F H v d ∧ Bor K F H u e := by
  cases b with
  | cons r t => cases t with | cons r2 t2 => cases t2; exact ⟨_, _, rfl, r, r2⟩

def lenM : List D → M (D × Bool)
  | [.str z] => fun Q _ => z.length ≤ sizeLine ∧ Q (.int z.length, false)
  | [.lst ds] => ret (.int ds.length, false)
  | [.tup ds] => ret (.int ds.length, false)
  | [.dct kvs] => ret (.int kvs.length, false)
  | [.scr ns] => ret (.int ns.length, false)
  | _ => fail
def absM : List D → M (D × Bool)
  | [.int i] => ret (.int (if i < 0 then -i else i), false)
  | _ => fail
def listM : List D → M (D × Bool)
  | [.lst ds] => ret (.lst ds, true)
  | [.tup ds] => ret (.lst ds, true)
  | _ => fail
def tupleM : List D → M (D × Bool)
  | [.lst ds] => ret (.tup ds, false)
  | [.tup ds] => ret (.tup ds, false)
  | _ => fail
def allM : List D → M (D × Bool)
  | [.lst ds] => fun Q _ => match blsD ds with | some bs => Q (.bl (bs.all id), false) | none => False
  | _ => fail
def anyM : List D → M (D × Bool)
  | [.lst ds] => fun Q _ => match blsD ds with | some bs => Q (.bl (bs.any id), false) | none => False
  | _ => fail
def sumM : List D → M (D × Bool)
  | [.lst ds] => fun Q _ => match intsD ds with | some ns => Q (.int ns.sum, false) | none => False
  | _ => fail
/-- the greatest, the least -/
def topI : Int → List Int → Int
  | a, [] => a
  | a, b :: r => topI (if a < b then b else a) r
def lowI : Int → List Int → Int
  | a, [] => a
  | a, b :: r => lowI (if b < a then b else a) r
theorem topI_spec : ∀ (l : List Int) (a : Int), topI a l ∈ a :: l ∧ ∀ y ∈ a :: l, y ≤ topI a l
  | [], a => by simp [topI]
  | b :: r, a => by
    have ih := topI_spec r (if a < b then b else a)
    unfold topI
    by_cases h : a < b
    · rw [if_pos h] at ih ⊢
      refine ⟨List.mem_cons_of_mem _ ih.1, fun y hy => ?_⟩
      rcases List.mem_cons.mp hy with rfl | hy
      · have := ih.2 b List.mem_cons_self; omega
      · exact ih.2 y hy
    · rw [if_neg h] at ih ⊢
      refine ⟨?_, fun y hy => ?_⟩
      · rcases List.mem_cons.mp ih.1 with e | e
        · rw [e]; exact List.mem_cons_self
        · exact List.mem_cons_of_mem _ (List.mem_cons_of_mem _ e)
      · rcases List.mem_cons.mp hy with rfl | hy
        · exact ih.2 _ List.mem_cons_self
        · rcases List.mem_cons.mp hy with rfl | hy
          · have := ih.2 a List.mem_cons_self; omega
          · exact ih.2 y (List.mem_cons_of_mem _ hy)
theorem lowI_spec : ∀ (l : List Int) (a : Int), lowI a l ∈ a :: l ∧ ∀ y ∈ a :: l, lowI a l ≤ y
  | [], a => by simp [lowI]
  | b :: r, a => by
    have ih := lowI_spec r (if b < a then b else a)
    unfold lowI
    by_cases h : b < a
    · rw [if_pos h] at ih ⊢
      refine ⟨List.mem_cons_of_mem _ ih.1, fun y hy => ?_⟩
      rcases List.mem_cons.mp hy with rfl | hy
      · have := ih.2 b List.mem_cons_self; omega
      · exact ih.2 y hy
    · rw [if_neg h] at ih ⊢
      refine ⟨?_, fun y hy => ?_⟩
      · rcases List.mem_cons.mp ih.1 with e | e
        · rw [e]; exact List.mem_cons_self
        · exact List.mem_cons_of_mem _ (List.mem_cons_of_mem _ e)
      · rcases List.mem_cons.mp hy with rfl | hy
        · exact ih.2 _ List.mem_cons_self
        · rcases List.mem_cons.mp hy with rfl | hy
          · have := ih.2 a List.mem_cons_self; omega
          · exact ih.2 y (List.mem_cons_of_mem _ hy)
def maxM : List D → M (D × Bool)
  | [.lst ds] => fun Q _ => match intsD ds with | some (a :: r) => Q (.int (topI a r), false) | _ => False
  | [.int i, .int j] => ret (.int (if j > i then j else i), false)
  | _ => fail
def minM : List D → M (D × Bool)
  | [.lst ds] => fun Q _ => match intsD ds with | some (a :: r) => Q (.int (lowI a r), false) | _ => False
  | [.int i, .int j] => ret (.int (if j < i then j else i), false)
  | _ => fail
/-- sorted by insertion -/
def insI (a : Int) : List Int → List Int
  | [] => [a]
  | b :: r => if a ≤ b then a :: b :: r else b :: insI a r
def srtI : List Int → List Int
  | [] => []
  | a :: r => insI a (srtI r)
theorem insI_perm (a : Int) : ∀ l : List Int, (insI a l).Perm (a :: l)
  | [] => .refl _
  | b :: r => by
    unfold insI
    split
    · exact .refl _
    · exact ((insI_perm a r).cons b).trans (.swap a b r)
theorem srtI_perm : ∀ l : List Int, (srtI l).Perm l
  | [] => .refl _
  | a :: r => (insI_perm a _).trans ((srtI_perm r).cons a)
theorem insI_sorted (a : Int) : ∀ l : List Int, l.Pairwise (· ≤ ·) → (insI a l).Pairwise (· ≤ ·)
  | [], _ => by simp [insI]
  | b :: r, h => by
    unfold insI
    split
    · rename_i hab
      rw [List.pairwise_cons] at h ⊢
      refine ⟨fun y hy => ?_, List.pairwise_cons.mpr h⟩
      rcases List.mem_cons.mp hy with rfl | hy
      · exact hab
      · have := h.1 y hy; omega
    · rename_i hab
      rw [List.pairwise_cons] at h ⊢
      refine ⟨fun y hy => ?_, insI_sorted a r h.2⟩
      rcases List.mem_cons.mp ((insI_perm a r).mem_iff.mp hy) with rfl | hy
      · omega
      · exact h.1 y hy
theorem srtI_sorted : ∀ l : List Int, (srtI l).Pairwise (· ≤ ·)
  | [] => .nil
  | a :: r => insI_sorted a _ (srtI_sorted r)
theorem sorted_one {a b : List Int} (p : a.Perm b) (ha : a.Pairwise (· ≤ ·)) (hb : b.Pairwise (· ≤ ·)) : a = b := p.eq_of_pairwise (le := (· ≤ ·)) (fun x y _ _ h1 h2 => Int.le_antisymm h1 h2) ha hb
def sortedM : List D → M (D × Bool)
  | [.lst ds] => fun Q _ => match intsD ds with | some ns => Q (.lst ((srtI ns).map D.int), true) | none => False
  | _ => fail
def reprM : List D → M (D × Bool)
  | [d] => fun Q _ => match d.py with | some p => p.canLay0 = true ∧ p.showable = true ∧ p.shown.length ≤ sizeLine ∧ p.depth ≤ 100 ∧ Q (.str p.shown, false) | none => False
  | _ => fail

section
variable {X : Cx}
theorem b_len : CallR X (.builtin "len") (rcM X.K lenM) := by
  intro pins s σ H xs us Q I r h
  obtain ⟨F, ds, Q2, E, sm, b, h, k⟩ := h
  unfold lenM at h
  split at h
  · obtain ⟨v, rfl, b1⟩ := b.one
    cases b1.str
    exact call_len pins s σ H _ us Q I r ⟨_, _, rfl, ⟨h.1, rfl⟩, k _ F H _ (Grow.refl sm) (Val.of (.int _)) h.2⟩
  · obtain ⟨v, rfl, b1⟩ := b.one
    obtain ⟨a, vs, rfl, ha, ra⟩ := b1.lst sm
    exact call_len_seq pins s σ H _ us Q I r ⟨_, _, rfl, .inl (SqL.of ha), by rw [ra.length]; exact k _ F H _ (Grow.refl sm) (Val.of (.int _)) h⟩
  · obtain ⟨v, rfl, b1⟩ := b.one
    obtain ⟨a, vs, rfl, ha, ra⟩ := b1.tup sm
    exact call_len_seq pins s σ H _ us Q I r ⟨_, _, rfl, .inr ha, by rw [ra.length]; exact k _ F H _ (Grow.refl sm) (Val.of (.int _)) h⟩
  · rename_i kvs
    obtain ⟨v, rfl, b1⟩ := b.one
    have kl : ∀ {ks : List (Key × V)} {kvs : List (D × D)} {F : Hp}, RepK X.K F ks kvs → ks.length = kvs.length := by
      intro ks kvs F r
      induction ks generalizing kvs with
      | nil => cases r; rfl
      | cons z zs ih => cases r with | cons q t => rw [List.length_cons, List.length_cons, ih t]
    have fin : ∃ a ks, v = .ref a ∧ H a = some (.dK ks) ∧ RepK X.K F ks kvs := by
      rcases b1 with b | ⟨p, rfl, ks, h, r⟩
      · cases b with
        | dct h r => exact ⟨_, _, rfl, sm _ _ h, r⟩
      · exact ⟨p, ks, rfl, h, r⟩
    obtain ⟨a, ks, rfl, ha, ra⟩ := fin
    exact call_lenD pins s σ H _ us Q I r ⟨_, _, rfl, ha, by rw [kl ra]; exact k _ F H _ (Grow.refl sm) (Val.of (.int _)) h⟩
  · obtain ⟨v, rfl, b1⟩ := b.one
    obtain ⟨a, rfl, ha⟩ := b1.scr sm
    exact call_len_seq pins s σ H _ us Q I r ⟨_, _, rfl, .inl ha, by rw [List.length_map]; exact k _ F H _ (Grow.refl sm) (Val.of (.int _)) h⟩
  · exact h.elim
theorem b_abs : CallR X (.builtin "abs") (rcM X.K absM) := by
  intro pins s σ H xs us Q I r h
  obtain ⟨F, ds, Q2, E, sm, b, h, k⟩ := h
  unfold absM at h
  split at h
  · obtain ⟨v, rfl, b1⟩ := b.one
    cases b1.int
    exact call_abs pins s σ H _ us Q I r ⟨_, rfl, k _ F H _ (Grow.refl sm) (Val.of (.int _)) h⟩
  · exact h.elim
theorem b_list : CallR X (.type "list") (rcM X.K listM) := by
  intro pins s σ H xs us Q I r h
  obtain ⟨F, ds, Q2, E, sm, b, h, k⟩ := h
  unfold listM at h
  split at h
  · obtain ⟨v, rfl, b1⟩ := b.one
    obtain ⟨a, vs, rfl, ha, ra⟩ := b1.lst sm
    exact call_list_of pins s σ H _ us Q I r ⟨_, _, rfl, .inl (SqL.of ha), new_own sm ra h k⟩
  · obtain ⟨v, rfl, b1⟩ := b.one
    obtain ⟨a, vs, rfl, ha, ra⟩ := b1.tup sm
    exact call_list_of pins s σ H _ us Q I r ⟨_, _, rfl, .inr ha, new_own sm ra h k⟩
  · exact h.elim
theorem b_tuple : CallR X (.type "tuple") (rcM X.K tupleM) := by
  intro pins s σ H xs us Q I r h
  obtain ⟨F, ds, Q2, E, sm, b, h, k⟩ := h
  unfold tupleM at h
  split at h
  · obtain ⟨v, rfl, b1⟩ := b.one
    obtain ⟨a, vs, rfl, ha, ra⟩ := b1.lst sm
    exact call_tuple_of pins s σ H _ us Q I r ⟨_, _, rfl, .inl ⟨SqL.of ha, new_tup sm ra h k⟩⟩
  · obtain ⟨v, rfl, b1⟩ := b.one
    have hb := b1
    obtain ⟨a, vs, rfl, ha, ra⟩ := b1.tup sm
    refine call_tuple_of pins s σ H _ us Q I r ⟨_, _, rfl, .inr ⟨ha, ?_⟩⟩
    rcases hb with q | ⟨_, _, o⟩
    · exact k _ F H _ (Grow.refl sm) (Val.of q) h
    · exact o.elim
  · exact h.elim
theorem b_all (hc : X.calm = true) : CallR X (.builtin "all") (rcM X.K allM) := by
  intro pins s σ H xs us Q I r h
  obtain ⟨F, ds, Q2, E, sm, b, h, k⟩ := h
  unfold allM at h
  split at h
  · obtain ⟨v, rfl, b1⟩ := b.one
    obtain ⟨a, vs, rfl, ha, ra⟩ := b1.lst sm
    split at h
    · rename_i bs e
      cases ra.bls e
      exact cr_all hc pins s σ H _ us Q I r ⟨_, _, rfl, SqL.of ha, k _ F H _ (Grow.refl sm) (Val.of (.bl _)) h⟩
    · exact h.elim
  · exact h.elim
theorem b_any (hc : X.calm = true) : CallR X (.builtin "any") (rcM X.K anyM) := by
  intro pins s σ H xs us Q I r h
  obtain ⟨F, ds, Q2, E, sm, b, h, k⟩ := h
  unfold anyM at h
  split at h
  · obtain ⟨v, rfl, b1⟩ := b.one
    obtain ⟨a, vs, rfl, ha, ra⟩ := b1.lst sm
    split at h
    · rename_i bs e
      cases ra.bls e
      exact cr_any hc pins s σ H _ us Q I r ⟨_, _, rfl, SqL.of ha, k _ F H _ (Grow.refl sm) (Val.of (.bl _)) h⟩
    · exact h.elim
  · exact h.elim
theorem b_sum (hc : X.calm = true) : CallR X (.builtin "sum") (rcM X.K sumM) := by
  intro pins s σ H xs us Q I r h
  obtain ⟨F, ds, Q2, E, sm, b, h, k⟩ := h
  unfold sumM at h
  split at h
  · obtain ⟨v, rfl, b1⟩ := b.one
    obtain ⟨a, vs, rfl, ha, ra⟩ := b1.lst sm
    split at h
    · rename_i bs e
      cases ra.ints e
      exact cr_sum hc pins s σ H _ us Q I r ⟨_, _, rfl, SqL.of ha, k _ F H _ (Grow.refl sm) (Val.of (.int _)) h⟩
    · exact h.elim
  · exact h.elim
theorem b_max (hc : X.calm = true) : CallR X (.builtin "max") (rcM X.K maxM) := by
  intro pins s σ H xs us Q I r h
  obtain ⟨F, ds, Q2, E, sm, b, h, k⟩ := h
  unfold maxM at h
  split at h
  · obtain ⟨v, rfl, b1⟩ := b.one
    obtain ⟨a, vs, rfl, ha, ra⟩ := b1.lst sm
    split at h
    · rename_i n ns e
      cases ra.ints e
      obtain ⟨s1, s2⟩ := topI_spec ns n
      refine cr_max hc pins s σ H _ us Q I r ⟨_, n :: ns, rfl, SqL.of ha, Nat.succ_pos _, fun z hz hle => ?_⟩
      have e2 : z = topI n ns := Int.le_antisymm (s2 z hz) (hle _ s1)
      rw [e2]
      exact k _ F H _ (Grow.refl sm) (Val.of (.int _)) h
    · exact h.elim
  · obtain ⟨v, u, rfl, b1, b2⟩ := b.two
    cases b1.int; cases b2.int
    exact call_max2 hc pins s σ H _ us Q I r ⟨_, _, rfl, k _ F H _ (Grow.refl sm) (Val.of (.int _)) h⟩
  · exact h.elim
theorem b_min (hc : X.calm = true) : CallR X (.builtin "min") (rcM X.K minM) := by
  intro pins s σ H xs us Q I r h
  obtain ⟨F, ds, Q2, E, sm, b, h, k⟩ := h
  unfold minM at h
  split at h
  · obtain ⟨v, rfl, b1⟩ := b.one
    obtain ⟨a, vs, rfl, ha, ra⟩ := b1.lst sm
    split at h
    · rename_i n ns e
      cases ra.ints e
      obtain ⟨s1, s2⟩ := lowI_spec ns n
      refine cr_min hc pins s σ H _ us Q I r ⟨_, n :: ns, rfl, SqL.of ha, Nat.succ_pos _, fun z hz hle => ?_⟩
      have e2 : z = lowI n ns := Int.le_antisymm (hle _ s1) (s2 z hz)
      rw [e2]
      exact k _ F H _ (Grow.refl sm) (Val.of (.int _)) h
    · exact h.elim
  · obtain ⟨v, u, rfl, b1, b2⟩ := b.two
    cases b1.int; cases b2.int
    exact call_min2 hc pins s σ H _ us Q I r ⟨_, _, rfl, k _ F H _ (Grow.refl sm) (Val.of (.int _)) h⟩
  · exact h.elim
theorem b_sorted : CallR X (.builtin "sorted") (rcM X.K sortedM) := by
  intro pins s σ H xs us Q I r h
  obtain ⟨F, ds, Q2, E, sm, b, h, k⟩ := h
  unfold sortedM at h
  split at h
  · obtain ⟨v, rfl, b1⟩ := b.one
    obtain ⟨a, vs, rfl, ha, ra⟩ := b1.lst sm
    split at h
    · rename_i ns e
      cases ra.ints e
      refine cr_sortedI pins s σ H _ us Q I r ⟨_, ns, rfl, SqL.of ha, fun ns' p pm so hp => ?_⟩
      have e2 : ns' = srtI ns := sorted_one (pm.trans (srtI_perm ns).symm) so (srtI_sorted ns)
      rw [e2]
      exact new_own sm (repL_ints _) h k p hp
    · exact h.elim
  · exact h.elim
theorem b_repr (gd : X.A.guards = some []) (hu : X.A.units + 110 < cLine) : CallR X (.builtin "repr") (rcM X.K reprM) := by
  intro pins s σ H xs us Q I r h
  obtain ⟨F, ds, Q2, E, sm, b, h, k⟩ := h
  unfold reprM at h
  split at h
  · rename_i d
    obtain ⟨v, rfl, b1⟩ := b.one
    split at h
    · rename_i p e
      obtain ⟨h0, h1, h2, h3, q⟩ := h
      have rp := b1.rep sm
      obtain ⟨u, rfl, rv⟩ := Vals.one r
      have dp := rp.dp e
      have fin : Q (.str p.shown) H := k _ F H (.str p.shown, false) (Grow.refl sm) (Val.of (.str _)) q
      obtain ⟨as, rds⟩ := Dp.reads I p v u dp rv
      cases dp with
      | non =>
        cases rv
        exact P.repr_of_none ⟨.str _, H, I.tok _, ⟨_, rfl⟩, by simpa only [PyData.shown] using fin⟩
      | bl b =>
        cases rv
        exact P.repr_of_bool ⟨.str _, H, I.tok _, ⟨_, rfl⟩, by simpa only [PyData.shown] using fin⟩
      | int i =>
        obtain ⟨t, rfl⟩ := rv
        exact P.repr_of_int (by simpa [PyData.showable] using h1) ⟨.str _, H, I.tok _, ⟨_, rfl⟩, by simpa only [PyData.shown] using fin⟩
      | str x =>
        obtain ⟨t, rfl⟩ := rv
        exact P.repr_of_str ⟨.str _, H, I.tok _, ⟨_, rfl⟩, by simpa only [PyData.shown] using fin⟩ (by simpa only [PyData.shown] using h2)
      | lst hs ha =>
        cases rv
        exact repr_of_reads' rds h1 (PyData.noDict_hsm (PyData.hasDict_of_canLay _ h0)) gd (by omega) (fun _ _ e => e) (fun h' u tk hk => ⟨.str _, H, I.kept (t' := tk) hk, ⟨_, rfl⟩, fin⟩) h2
      | tup hs ha =>
        cases rv
        exact repr_of_reads' rds h1 (PyData.noDict_hsm (PyData.hasDict_of_canLay _ h0)) gd (by omega) (fun _ _ e => e) (fun h' u tk hk => ⟨.str _, H, I.kept (t' := tk) hk, ⟨_, rfl⟩, fin⟩) h2
    · exact h.elim
  · exact h.elim
end
end DL
namespace L2
open PySem
theorem PI.imp {X : Cx} {tg it : Expr} {t t' : TI} (h : PI X tg it t) (i : ∀ σ H Q, t' σ H Q → t σ H Q) : PI X tg it t' := ⟨fun pins s σ H Q I hw => h.run pins s σ H Q I (i σ H Q hw)⟩
end L2
namespace DL
open PySem L2

/-! ### what is walked, by its items -/
abbrev CI := Env → M (List D)
def ItOk (K : PySem.W.Frag) (F : Hp) (J : It) (ds : List D) : Prop := ∀ F1 H1, Same F F1 → Same F1 H1 →
  J.stop ds.length H1 ∧ ∀ i d, ds[i]? = some d → J.go i H1 ∧ ∀ x H2, J.yld i H1 x H2 → ∃ F2, Grow F1 H1 F2 H2 ∧ Rep K F2 x d
def rdI (K : PySem.W.Frag) (E : EX) (c : CI) : TI := fun σ H R => ∃ F ρ Q, REnv K E.B E.F0 F H σ ρ ∧ c ρ Q (E.at ρ) ∧ ∀ J H' F' ds, Grow F H F' H' → ItOk K F' J ds → Q ds → R J H'
theorem lt_of_at {α : Type} {ds : List α} {i : Nat} {d : α} (e : ds[i]? = some d) : i < ds.length := by
  rcases Nat.lt_or_ge i ds.length with h | h
  · exact h
  · rw [List.getElem?_eq_none h] at e; cases e
section
variable {K : PySem.W.Frag} {F : Hp} {J : It} {ds : List D} {G : Hp → Prop}
theorem ItOk.of_at {xs : List V} (w : Walk J ds.length G (YAt xs)) (g : ∀ H1, Same F H1 → G H1) (r : RepL K F xs ds) : ItOk K F J ds := by
  intro F1 H1 s1 s2
  have g1 := g H1 (s1.trans s2)
  refine ⟨w.stops _ g1, fun i d e => ⟨w.goes _ _ (lt_of_at e) g1, fun x H2 y => ?_⟩⟩
  obtain ⟨rfl, hx⟩ := w.yields _ _ _ _ (lt_of_at e) g1 y
  obtain ⟨v, h1, h2⟩ := r.get e
  rw [hx] at h1; cases h1
  exact ⟨F1, Grow.refl s2, h2.mono s1⟩
theorem ItOk.of_fn {f : Nat → V} (w : Walk J ds.length G (YFn f)) (g : ∀ H1, Same F H1 → G H1) (r : ∀ i d, ds[i]? = some d → ∀ F1, Same F F1 → Rep K F1 (f i) d) : ItOk K F J ds := by
  intro F1 H1 s1 s2
  have g1 := g H1 (s1.trans s2)
  refine ⟨w.stops _ g1, fun i d e => ⟨w.goes _ _ (lt_of_at e) g1, fun x H2 y => ?_⟩⟩
  obtain ⟨rfl, rfl⟩ := w.yields _ _ _ _ (lt_of_at e) g1 y
  exact ⟨F1, Grow.refl s2, r i d e F1 s1⟩
theorem ItOk.of_pair {xs ys : Nat → Option V} (w : Walk J ds.length G (YPair xs ys)) (g : ∀ H1, Same F H1 → G H1)
    (r : ∀ i d, ds[i]? = some d → ∃ a b, d = .tup [a, b] ∧ (∀ x, xs i = some x → Rep K F x a) ∧ ∀ x, ys i = some x → Rep K F x b) : ItOk K F J ds := by
  intro F1 H1 s1 s2
  have g1 := g H1 (s1.trans s2)
  refine ⟨w.stops _ g1, fun i d e => ⟨w.goes _ _ (lt_of_at e) g1, fun v H2 y => ?_⟩⟩
  obtain ⟨T, x, z, rfl, hT, rfl, e1, e2⟩ := w.yields _ _ _ _ (lt_of_at e) g1 y
  obtain ⟨a, b, rfl, ra, rb⟩ := r i d e
  have gr := Grow.new s2 hT (.tup [x, z])
  exact ⟨_, gr, .tup (SqT.of upd_same) (.cons (((ra x e1).mono s1).mono gr.f) (.cons (((rb z e2).mono s1).mono gr.f) .nil))⟩
end
theorem sqL_same {K : PySem.W.Frag} {H H' : Hp} {a : Addr} {xs : List V} (e : Same H H') (h : H a = some (.lst xs)) : SqL K H' a xs := SqL.of (e _ _ h)

def chars (x : Str) : List D := x.cps.toList.map fun c => .str ⟨#[c]⟩
def itemsM : D → M (List D)
  | .lst ds => ret ds
  | .tup ds => ret ds
  | .str x => ret (chars x)
  | .scr ns => ret (ns.map .int)
  | _ => fail
def iSeq (a : CB) : CI := fun ρ => bnd (a ρ) itemsM
section
variable {X : Cx} {E : EX} {tg l a b c3 : Expr} {xa : CB} {cl : CL} {p pos tpos : Pos}
theorem ri_seq (ha : PE X l (rdF X.K E xa)) : PI X tg l (rdI X.K E (iSeq xa)) := by
  refine ⟨fun pins s σ H R I ⟨F, ρ, Q, re, h, k⟩ => ?_⟩
  refine thn (ha.run pins s σ H (fun v H1 => ∃ F1 d, Grow F H F1 H1 ∧ Rep X.K F1 v d ∧ itemsM d Q (E.at ρ)) I ⟨F, ρ, _, re, h, fun v H1 F1 d g1 r1 q1 => ⟨F1, d, g1, r1, q1⟩⟩) ?_
  rintro v s1 ⟨x, H1, I1, r1, F1, d, g1, rp, q⟩
  cases rp with
  | lst h1 rl =>
    cases r1
    rename_i la lxs lds
    obtain ⟨its, rv, pp, hz⟩ := I1.list (SqL.of (g1.fh _ _ h1))
    refine wpAny_pyIter_list pp.isList (pi_one (tk := s1.toks) I1 _ (turn_list la _) ⟨_, Heap.get?_push_size _ rfl, rfl, rfl⟩ ?_)
    exact k _ H1 F1 _ g1 (ItOk.of_at (G := fun H => SqL X.K H la lxs) (rl.length ▸ walk_list) (fun H s => sqL_same s h1) rl) q
  | tup h1 rl =>
    cases r1
    rename_i la lxs lds
    obtain ⟨its, rv, pp, hz⟩ := I1.tuple (sqT_same g1.fh h1)
    refine wpAny_pyIter_tuple (show s1.heap.IsTuple la its.toArray from pp) (pi_one (tk := s1.toks) I1 _ (turn_tuple la _) ⟨_, Heap.get?_push_size _ rfl, rfl, rfl⟩ ?_)
    exact k _ H1 F1 _ g1 (ItOk.of_at (G := fun H => SqT X.K H la lxs) (rl.length ▸ walk_tup) (fun H s => sqT_same s h1) rl) q
  | @scr la ns h1 =>
    cases r1
    obtain ⟨its, rv, pp, hz⟩ := I1.list (h1.mono g1.fh).sql
    refine wpAny_pyIter_list pp.isList (pi_one (tk := s1.toks) I1 _ (turn_list la _) ⟨_, Heap.get?_push_size _ rfl, rfl, rfl⟩ ?_)
    have hl : (ns.map D.int).length = (ns.map V.int).length := by rw [List.length_map, List.length_map]
    exact k _ H1 F1 _ g1 (ItOk.of_at (G := fun H => SqL X.K H la (ns.map V.int)) (by rw [hl]; exact walk_list) (fun H s => (h1.mono s).sql) (repL_intsD _)) q
  | str z =>
    obtain ⟨t, rfl⟩ := r1
    have w : Walk (Its z) (chars z).length (fun _ => True) (YFn fun i => .str ⟨#[z.cps.toList.getD i 0]⟩) := by
      have hl : (chars z).length = z.cps.size := by simp [chars]
      rw [hl]
      refine walk_str.mono (fun _ h => h) fun i H x H' hi _ y => ?_
      obtain ⟨rfl, c, hc, rfl⟩ := y
      refine ⟨rfl, ?_⟩
      have hc2 : z.cps.toList[i]? = some c := by simpa using hc
      show _ = V.str ⟨#[z.cps.toList.getD i 0]⟩
      rw [List.getD_eq_getElem?_getD, hc2]
      rfl
    have io : ItOk X.K F1 (Its z) (chars z) := ItOk.of_fn w (fun _ _ => trivial) fun i d e F2 _ => by
      unfold chars at e
      rw [List.getElem?_map] at e
      rw [List.getD_eq_getElem?_getD]
      cases q2 : z.cps.toList[i]? with
      | none => rw [q2] at e; cases e
      | some c => rw [q2] at e; cases e; exact .str _
    cases hall : z.cps.all (· < 128)
    · exact wpAny_pyIter_wide hall (pi_one (tk := s1.toks) I1 _ (turn_str _ z t "str_iterator" (.inr rfl)) ⟨_, Heap.get?_push_size _ rfl, rfl, rfl⟩ (k _ H1 F1 _ g1 io q))
    · exact wpAny_pyIter_ascii hall (pi_one (tk := s1.toks) I1 _ (turn_str _ z t "str_ascii_iterator" (.inl rfl)) ⟨_, Heap.get?_push_size _ rfl, rfl, rfl⟩ (k _ H1 F1 _ g1 io q))
  | _ => exact (show False from q).elim

/-! ### ranges -/
def upto (lo : Int) (c : Int) (n : Nat) : List D := (List.range n).map fun i => .int (lo + (i : Nat) * c)
theorem upto_len (lo c : Int) (n : Nat) : (upto lo c n).length = n := by simp [upto]
theorem upto_at {lo c : Int} {n i : Nat} {d : D} (e : (upto lo c n)[i]? = some d) : d = .int (lo + (i : Nat) * c) := by
  unfold upto at e
  rw [List.getElem?_map] at e
  cases q : (List.range n)[i]? with
  | none => rw [q] at e; cases e
  | some j =>
    rw [q] at e
    cases e
    have hj := lt_of_at q
    rw [List.getElem?_eq_getElem hj] at q
    cases q
    simp
theorem itOk_rng {K : PySem.W.Frag} {F : Hp} (lo : Int) (n : Nat) : ItOk K F (Itr lo n) (upto lo 1 n) :=
  ItOk.of_fn (G := fun _ => True) (f := fun i => .int (lo + i)) (by rw [upto_len]; exact walk_range) (fun _ _ => trivial) fun i d e F1 _ => by rw [upto_at e, Int.mul_one]; exact .int _
theorem itOk_rngC {K : PySem.W.Frag} {F : Hp} (lo c : Int) (n : Nat) : ItOk K F (Itc lo c n) (upto lo c n) :=
  ItOk.of_fn (G := fun _ => True) (f := fun i => .int (lo + (i : Nat) * c)) (by rw [upto_len]; exact walk_rangeC) (fun _ _ => trivial) fun i d e F1 _ => by rw [upto_at e]; exact .int _
def rangeM : List D → M (List D)
  | [.int j] => fun Q _ => (-(2 ^ 62) ≤ j ∧ j < 2 ^ 62) ∧ Q (upto 0 1 j.toNat)
  | [.int i, .int j] => fun Q _ => (-(2 ^ 62) ≤ i ∧ i < 2 ^ 62 ∧ -(2 ^ 62) ≤ j ∧ j < 2 ^ 62) ∧ Q (upto i 1 (j - i).toNat)
  | [.int i, .int j, .int c] => fun Q _ => ∃ n, RgC i j c n ∧ Q (upto i c n)
  | _ => fail
def iRng (l : CL) : CI := fun ρ => bnd (l ρ) rangeM
theorem RepL.one {K : PySem.W.Frag} {F : Hp} {v : V} {ds : List D} (r : RepL K F [v] ds) : ∃ d, ds = [d] ∧ Rep K F v d := by
  cases r with | cons r t => cases t; exact ⟨_, rfl, r⟩
theorem RepL.two {K : PySem.W.Frag} {F : Hp} {v w : V} {ds : List D} (r : RepL K F [v, w] ds) : ∃ d e, ds = [d, e] ∧ Rep K F v d ∧ Rep K F w e := by
  cases r with | cons r t => cases t with | cons r2 t => cases t; exact ⟨_, _, rfl, r, r2⟩
theorem RepL.three {K : PySem.W.Frag} {F : Hp} {v w u : V} {ds : List D} (r : RepL K F [v, w, u] ds) : ∃ d e f, ds = [d, e, f] ∧ Rep K F v d ∧ Rep K F w e ∧ Rep K F u f := by
  cases r with | cons r t => cases t with | cons r2 t => cases t with | cons r3 t => cases t; exact ⟨_, _, _, rfl, r, r2, r3⟩
theorem len1 {α : Type} {l : List α} (h : l.length = 1) : ∃ a, l = [a] := by
  match l, h with
  | [a], _ => exact ⟨a, rfl⟩
theorem len2 {α : Type} {l : List α} (h : l.length = 2) : ∃ a b, l = [a, b] := by
  match l, h with
  | [a, b], _ => exact ⟨a, b, rfl⟩
theorem len3 {α : Type} {l : List α} (h : l.length = 3) : ∃ a b c, l = [a, b, c] := by
  match l, h with
  | [a, b, c], _ => exact ⟨a, b, c, rfl⟩
theorem ri_range1 (hg : Gl X "range") (hm : X.mg "range" = none) (ha : PA X [a] (rdL X.K E 1 cl)) (hs : starEach [a] X.env = [(false, eval a X.env)]) : PI X tg (.Call (.Name "range" p) [a] [] pos) (rdI X.K E (iRng cl)) :=
  (pi_range1 hg hm ha hs).imp fun σ H R ⟨F, ρ, Q, re, h, k⟩ => ⟨F, ρ, _, re, h, fun vs H1 F1 ds g1 r1 hn q => by
    obtain ⟨v, rfl⟩ := len1 hn
    obtain ⟨d, rfl, rd⟩ := r1.one
    cases rd with
    | int j => exact ⟨j, rfl, q.1.1, q.1.2, k _ H1 F1 _ g1 (itOk_rng 0 _) q.2⟩
    | _ => exact (show False from q).elim⟩
theorem ri_range2 (hg : Gl X "range") (hm : X.mg "range" = none) (ha : PA X [a, b] (rdL X.K E 2 cl)) (hs : starEach [a, b] X.env = [(false, eval a X.env), (false, eval b X.env)]) (hs2 : starEach [b] X.env = [(false, eval b X.env)]) :
    PI X tg (.Call (.Name "range" p) [a, b] [] pos) (rdI X.K E (iRng cl)) :=
  (pi_range2 hg hm ha hs hs2).imp fun σ H R ⟨F, ρ, Q, re, h, k⟩ => ⟨F, ρ, _, re, h, fun vs H1 F1 ds g1 r1 hn q => by
    obtain ⟨v, w, rfl⟩ := len2 hn
    obtain ⟨d, e, rfl, rd, re⟩ := r1.two
    cases rd with
    | int i => cases re with
      | int j => exact ⟨i, j, rfl, q.1, k _ H1 F1 _ g1 (itOk_rng i _) q.2⟩
      | _ => exact (show False from q).elim
    | _ => exact (show False from q).elim⟩
theorem ri_range3 (hg : Gl X "range") (hm : X.mg "range" = none) (ha : PA X [a, b, c3] (rdL X.K E 3 cl)) (hs : starEach [a, b, c3] X.env = (false, eval a X.env) :: starEach [b, c3] X.env) (hpl : (backTo pos (starEach [b, c3] X.env)).any (·.1) = false) :
    PI X tg (.Call (.Name "range" p) [a, b, c3] [] pos) (rdI X.K E (iRng cl)) :=
  (pi_range3 hg hm ha hs hpl).imp fun σ H R ⟨F, ρ, Q, re, h, k⟩ => ⟨F, ρ, _, re, h, fun vs H1 F1 ds g1 r1 hn q => by
    obtain ⟨v, w, u, rfl⟩ := len3 hn
    obtain ⟨d, e, f, rfl, rd, re, rf⟩ := r1.three
    cases rd with
    | int i => cases re with
      | int j => cases rf with
        | int c =>
          obtain ⟨n, hc, q⟩ := q
          exact ⟨i, j, c, n, rfl, hc, k _ H1 F1 _ g1 (itOk_rngC i c n) q⟩
        | _ => exact (show False from q).elim
      | _ => exact (show False from q).elim
    | _ => exact (show False from q).elim⟩

/-! ### pairs -/
def pairs : List D → List D → List D
  | a :: as, b :: bs => .tup [a, b] :: pairs as bs
  | _, _ => []
def enumD (ds : List D) : List D := pairs (upto 0 1 ds.length) ds
theorem pairs_len : ∀ as bs : List D, (pairs as bs).length = min as.length bs.length
  | a :: as, b :: bs => by simp [pairs, pairs_len as bs]
  | [], _ => by simp [pairs]
  | _ :: _, [] => by simp [pairs]
theorem pairs_at : ∀ {as bs : List D} {i : Nat} {d : D}, (pairs as bs)[i]? = some d → ∃ a b, d = .tup [a, b] ∧ as[i]? = some a ∧ bs[i]? = some b
  | a :: as, b :: bs, 0, d, e => by simp [pairs] at e; exact ⟨a, b, e.symm, rfl, rfl⟩
  | a :: as, b :: bs, i + 1, d, e => by
    obtain ⟨x, y, h⟩ := pairs_at (as := as) (bs := bs) (i := i) (d := d) (by simpa [pairs] using e)
    exact ⟨x, y, by simpa using h⟩
  | [], _, _, _, e => by simp [pairs] at e
  | _ :: _, [], _, _, e => by simp [pairs] at e
theorem enumD_len (ds : List D) : (enumD ds).length = ds.length := by simp [enumD, pairs_len, upto_len]
end
end DL
namespace DL
open PySem L2

/-! ### storing -/
section
variable {K : PySem.W.Frag} {B F0 F H : Hp} {σ : L2.St} {ρ : Env}
theorem set_at {α : Type} {l : List α} {i j : Nat} {a b : α} (e : (l.set i a)[j]? = some b) : (j = i ∧ i < l.length ∧ b = a) ∨ (j ≠ i ∧ l[j]? = some b) := by
  by_cases h : i = j
  · subst h
    by_cases hi : i < l.length
    · rw [List.getElem?_set_self hi] at e; cases e; exact .inl ⟨rfl, hi, rfl⟩
    · rw [List.getElem?_eq_none (by simpa using hi)] at e; cases e
  · rw [List.getElem?_set_ne h] at e; exact .inr ⟨fun q => h q.symm, e⟩
theorem REnv.put (r : REnv K B F0 F H σ ρ) (i : Nat) {o : Option V} {c : Cell} (hc : RepC K B F H o c) (hd : ∀ d z p, c = .ow d z → o = some (.ref p) → ∀ j e y, j ≠ i → ρ[j]? = some (.ow e y) → σ[j]? ≠ some (some (.ref p))) :
    REnv K B F0 F H (σ.set i o) (ρ.set i c) where
  bh := r.bh
  f0 := r.f0
  fh := r.fh
  fr := r.fr
  len := by rw [List.length_set, List.length_set, r.len]
  cell := fun j c' e => by
    rcases set_at e with ⟨rfl, hi, rfl⟩ | ⟨hj, e⟩
    · exact ⟨o, List.getElem?_set_self (by rw [r.len]; exact hi), hc⟩
    · rw [List.getElem?_set_ne (Ne.symm hj)]; exact r.cell j c' e
  dis := fun j k d e z y p hjk ej ek es => by
    rcases set_at ej with ⟨rfl, hi, hq⟩ | ⟨hj, ej2⟩
    · rcases set_at ek with ⟨rfl, _, _⟩ | ⟨hk, ek2⟩
      · exact absurd rfl hjk
      · rw [List.getElem?_set_self (by rw [r.len]; exact hi)] at es
        rw [List.getElem?_set_ne (Ne.symm hk)]
        exact hd d z p hq.symm (Option.some.inj es) k e y hk ek2
    · rw [List.getElem?_set_ne (Ne.symm hj)] at es
      rcases set_at ek with ⟨rfl, hi, hq⟩ | ⟨hk, ek2⟩
      · intro w
        rw [List.getElem?_set_self (by rw [r.len]; exact hi)] at w
        exact hd e y p hq.symm (Option.some.inj w) j d z hj ej2 es
      · rw [List.getElem?_set_ne (Ne.symm hk)]
        exact r.dis j k d e z y p hjk ej2 ek2 es
theorem REnv.put_sh (r : REnv K B F0 F H σ ρ) (i : Nat) {v : V} {d : D} (h : Rep K F v d) : REnv K B F0 F H (σ.set i (some v)) (ρ.set i (.sh d)) :=
  r.put i ⟨v, rfl, h⟩ fun d z p e => by cases e
theorem REnv.put_no (r : REnv K B F0 F H σ ρ) (i : Nat) {o : Option V} : REnv K B F0 F H (σ.set i o) (ρ.set i .no) :=
  r.put i trivial fun d z p e => by cases e
/-- less is known -/
theorem REnv.forget (r : REnv K B F0 F H σ ρ) (i : Nat) : REnv K B F0 F H σ (ρ.set i .no) := by
  have q := r.put_no i (o := (σ[i]?).getD none)
  have e : σ.set i ((σ[i]?).getD none) = σ := by
    apply List.ext_getElem?
    intro j
    by_cases h : i = j
    · subst h
      by_cases hi : i < σ.length
      · rw [List.getElem?_set_self hi, List.getElem?_eq_getElem hi]; rfl
      · rw [List.getElem?_eq_none (by simpa using hi), List.getElem?_eq_none (by simpa using hi)]
    · rw [List.getElem?_set_ne h]
  rw [e] at q
  exact q
def wipeE (ρ : Env) : List Nat → Env
  | [] => ρ
  | v :: vs => (wipeE ρ vs).set v .no
theorem REnv.wipe (r : REnv K B F0 F H σ ρ) : ∀ vs : List Nat, REnv K B F0 F H (L2.wipe σ vs) (wipeE ρ vs)
  | [] => r
  | v :: vs => (REnv.wipe r vs).put_no v
theorem wipe_in {σ : L2.St} {i : Nat} : ∀ {vs : List Nat}, i ∈ vs → i < σ.length → (L2.wipe σ vs)[i]? = some none
  | v :: vs, h, hi => by
    unfold L2.wipe
    by_cases e : v = i
    · subst e; rw [List.getElem?_set_self (by rw [wipe_length]; exact hi)]
    · rw [List.getElem?_set_ne e]
      exact wipe_in (by rcases List.mem_cons.mp h with q | q; exact absurd q.symm e; exact q) hi
theorem wipe_eq {σ σ' : L2.St} {vs : List Nat} (hl : σ'.length = σ.length) (h : ∀ i, i ∉ vs → σ'[i]? = σ[i]?) : L2.wipe σ' vs = L2.wipe σ vs := by
  apply List.ext_getElem?
  intro i
  by_cases hi : i ∈ vs
  · by_cases hl2 : i < σ.length
    · rw [wipe_in hi hl2, wipe_in hi (by rw [hl]; exact hl2)]
    · rw [List.getElem?_eq_none (by rw [wipe_length]; omega), List.getElem?_eq_none (by rw [wipe_length]; omega)]
  · rw [wipe_out hi, wipe_out hi, h i hi]
theorem wipe_idem {σ : L2.St} {vs : List Nat} : L2.wipe (L2.wipe σ vs) vs = L2.wipe σ vs :=
  wipe_eq (wipe_length _ _) fun i hi => wipe_out hi
end

/-! ### targets -/
abbrev CG := D → Env → M Env
def rdG (K : PySem.W.Frag) (E : EX) (sl : List Nat) (g : CG) : TG := fun v σ H Q' => ∃ F ρ Q d, REnv K E.B E.F0 F H σ ρ ∧ Rep K F v d ∧ g d ρ Q (fun _ => False) ∧
  ∀ σ' ρ', σ'.length = σ.length → (∀ i, i ∉ sl → σ'[i]? = σ[i]?) → REnv K E.B E.F0 F H σ' ρ' → Q ρ' → Q' σ' H
def rdGs (K : PySem.W.Frag) (E : EX) (sl : List Nat) (g : List D → Env → M Env) : TGs := fun vs σ H Q' => ∃ F ρ Q ds, REnv K E.B E.F0 F H σ ρ ∧ RepL K F vs ds ∧ g ds ρ Q (fun _ => False) ∧
  ∀ σ' ρ', σ'.length = σ.length → (∀ i, i ∉ sl → σ'[i]? = σ[i]?) → REnv K E.B E.F0 F H σ' ρ' → Q ρ' → Q' σ' H
def gNm (i : Nat) : CG := fun d ρ => ret (ρ.set i (.sh d))
def gsNil : List D → Env → M Env
  | [], ρ => ret ρ
  | _ :: _, _ => fail
def gsCons (g : CG) (gs : List D → Env → M Env) : List D → Env → M Env
  | d :: ds, ρ => bnd (g d ρ) (gs ds)
  | [], _ => fail
def gTp (n : Nat) (gs : List D → Env → M Env) : CG
  | .tup ds, ρ => fun Q E => ds.length = n ∧ gs ds ρ Q E
  | _, _ => fail
section
variable {X : Cx} {E : EX} {pos : Pos} {e : Expr} {es : List Expr}
theorem PG.imp {X : Cx} {e : Expr} {t t' : TG} (h : PG X e t) (i : ∀ v σ H Q, t' v σ H Q → t v σ H Q) : PG X e t' := ⟨fun pins s σ H v u Q I r hw => h.run pins s σ H v u Q I r (i v σ H Q hw)⟩
theorem PGs.imp {X : Cx} {e : List Expr} {t t' : TGs} (h : PGs X e t) (i : ∀ v σ H Q, t' v σ H Q → t v σ H Q) : PGs X e t' := ⟨fun pins s σ H v u Q I r hw => h.run pins s σ H v u Q I r (i v σ H Q hw)⟩
theorem rg_name {i : Nat} {x : Str} (hN : X.N.Nodup) (hi : X.N[i]? = some x) (hx : Loc X.env.scope x) (hf : X.fn x = true ∨ X.env.scope.names.lookup x = some .local) : PG X (.Name x pos) (rdG X.K E [i] (gNm i)) :=
  PG.imp (pg_name hN hi hx hf) fun v σ H Q' ⟨F, ρ, Q, d, re, r, q, k⟩ => by
    refine k _ _ (by rw [List.length_set]) (fun j hj => ?_) (re.put_sh i r) q
    rw [List.getElem?_set_ne (by simpa using Ne.symm (by simpa using hj))]
theorem rgs_nil : PGs X [] (rdGs X.K E [] gsNil) := PGs.imp pgs_nil fun v σ H Q' ⟨F, ρ, Q, ds, re, r, q, k⟩ => by
  cases r with
  | nil => exact ⟨rfl, k σ ρ rfl (fun _ _ => rfl) re q⟩
  | cons _ _ => exact (show False from q).elim
theorem rgs_cons {sl sl2 : List Nat} {g : CG} {gs : List D → Env → M Env} (h1 : PG X e (rdG X.K E sl g)) (h2 : PGs X es (rdGs X.K E sl2 gs)) (hs : (assignEach (e :: es) X.env).map (·.2) = assign e X.env :: (assignEach es X.env).map (·.2)) :
    PGs X (e :: es) (rdGs X.K E (sl ++ sl2) (gsCons g gs)) := PGs.imp (pgs_cons h1 h2 hs) fun v σ H Q' ⟨F, ρ, Q, ds, re, r, q, k⟩ => by
  cases r with
  | nil => exact (show False from q).elim
  | cons r t =>
    refine ⟨_, _, rfl, F, ρ, _, _, re, r, q, fun σ' ρ' l1 k1 re1 q1 => ⟨F, ρ', _, _, re1, t, q1, fun σ2 ρ2 l2 k2 re2 q2 => k σ2 ρ2 (l2.trans l1) (fun i hi => ?_) re2 q2⟩⟩
    rw [List.mem_append, not_or] at hi
    rw [k2 i hi.2, k1 i hi.1]
theorem rg_tup {k n : Nat} {sl : List Nat} {gs : List D → Env → M Env} (hc : X.calm = true) (h : PGs X es (rdGs X.K E sl gs)) (hn : (assignEach es X.env).length = n) (hst : (assignEach es X.env).findIdx? (·.1) = none) :
    PG X (.Tuple es k pos) (rdG X.K E sl (gTp n gs)) := PG.imp (pg_tup hc h hn hst) fun v σ H Q' ⟨F, ρ, Q, d, re, r, q, k⟩ => by
  cases r with
  | tup h1 r1 => exact ⟨_, _, rfl, sqT_same re.fh h1, by rw [r1.length]; exact q.1, F, ρ, Q, _, re, r1, q.2, k⟩
  | _ => exact (show False from q).elim
end

/-! ### list comprehensions -/
def tYesD : CT := fun _ => ret true
def lcM (g : CG) (t : CT) (e : CB) (ρ : Env) : List D → M (List D)
  | [] => ret []
  | d :: ds => bnd (g d ρ) fun ρ' => bnd (t ρ') fun b => if b = true then bnd (e ρ') fun x => bnd (lcM g t e ρ ds) fun r => ret (x :: r) else lcM g t e ρ ds
def cLc (vs : List Nat) (it : CI) (g : CG) (t : CT) (e : CB) : CV := fun ρ => bnd (it ρ) fun ds Q E => ds.length ≤ sizeLine ∧ lcM g t e (wipeE ρ vs) ds (fun r => Q (.lst r, true)) (fun _ => False)
section
variable {X : Cx} {E : EX} {pos : Pos} {elt tg iter : Expr} {ifs : List Expr}
theorem rts_nil : PTs X [] (rdT X.K E tYesD) := ⟨fun pins s σ H Q' I ⟨F, ρ, Q, re, h, k⟩ => (pts_nil (X := X)).run pins s σ H Q' I (k true H F re.gr h)⟩
theorem lc_imp {K : PySem.W.Frag} {ci : CI} {g : CG} {t : CT} {xe : CB} {vs : List Nat} {sl : List Nat} {σ : L2.St} {H : Hp} {Q' : VK} (hsl : ∀ i ∈ sl, i ∈ vs) (h : rdV K E (cLc vs ci g t xe) σ H Q') :
    tLc (rdI K E ci) (rdG K E.no sl g) (rdT K E.no t) (rdF K E.no xe) vs σ H Q' := by
  obtain ⟨F, ρ, Q, re, h, k⟩ := h
  refine ⟨F, ρ, _, re, h, fun J H1 F1 ds g1 io q => ?_⟩
  obtain ⟨hsz, q⟩ := q
  intro Dn hD
  refine ⟨fun i m H2 => m = ds.length - i ∧ i ≤ ds.length ∧ ∃ F2 acc out, Grow F1 H1 F2 H2 ∧ F2 Dn = none ∧ H2 Dn = some (.lst acc) ∧ RepL K F2 acc out ∧ out.length ≤ i ∧ lcM g t xe (wipeE ρ vs) (ds.drop i) (fun r => Q (.lst (out ++ r), true)) (fun _ => False),
    ⟨ds.length, by simp, Nat.zero_le _, F1, [], [], Grow.own g1.fh hD _, g1.fh.free hD, upd_same, .nil, Nat.zero_le _, q⟩, ?_⟩
  rintro i m H2 ⟨rfl, hi, F2, acc, out, g2, fD, hDn, ra, ho, q2⟩
  obtain ⟨i1, i2⟩ := io F2 H2 g2.f g2.fh
  by_cases hlt : i < ds.length
  · have e : ds[i]? = some ds[i] := List.getElem?_eq_getElem hlt
    obtain ⟨go, yl⟩ := i2 i _ e
    rw [List.drop_eq_getElem_cons hlt] at q2
    refine .inr ⟨go, fun H' => ∃ F2 acc out, Grow F1 H1 F2 H' ∧ F2 Dn = none ∧ H' Dn = some (.lst acc) ∧ RepL K F2 acc out ∧ out.length ≤ i + 1 ∧ lcM g t xe (wipeE ρ vs) (ds.drop (i + 1)) (fun r => Q (.lst (out ++ r), true)) (fun _ => False),
      fun H' ⟨F3, a3, o3, w⟩ => ⟨ds.length - (i + 1), by omega, rfl, hlt, F3, a3, o3, w⟩, fun x H3 y => ?_⟩
    obtain ⟨F3, g3, r3⟩ := yl x H3 y
    have st : ∀ {F' H' : Hp}, Grow F2 H2 F' H' → F' Dn = none ∧ H' Dn = some (.lst acc) := fun {F' H'} gg => by
      refine ⟨?_, gg.h _ _ hDn⟩
      cases z : F' Dn with
      | none => rfl
      | some u =>
        rcases gg.nw Dn u z with w | w
        · rw [fD] at w; cases w
        · rw [hDn] at w; cases w
    have re3 := (re.grow ((g1.trans g2).trans g3)).wipe vs
    refine ⟨F3, _, _, _, re3, r3, q2, fun σ4 ρ4 l4 k4 re4 q4 => ⟨?_, F3, ρ4, _, re4, q4, fun b H5 F5 g5 q5 => ?_⟩⟩
    · rw [← wipe_idem (σ := σ)]
      exact wipe_eq l4 fun j hj => k4 j fun z => hj (hsl j z)
    · have g35 := g3.trans g5
      cases b with
      | false =>
        show ∃ F2 acc out, _
        exact ⟨F5, acc, out, g2.trans g35, (st g35).1, (st g35).2, ra.mono g35.f, Nat.le_succ_of_le ho, q5⟩
      | true =>
        show rdF K E.no xe σ4 H5 _
        refine ⟨F5, ρ4, _, re4.grow g5, (show bnd (xe ρ4) _ _ (fun _ => False) from q5), fun v H6 F6 d g6 r6 q6 => ?_⟩
        have g36 := g35.trans g6
        obtain ⟨s1, s2⟩ := st g36
        refine ⟨acc, s2, by rw [ra.length]; omega, F6, _, out ++ [d], ?_, s1, upd_same, (ra.mono g36.f).append (.cons r6 .nil), by rw [List.length_append, List.length_singleton]; omega, ?_⟩
        · have gg := g2.trans g36
          refine ⟨fun b u z => ?_, gg.f, fun b u z => ?_, gg.nw⟩
          · rw [upd_ne (ne_of_none z hD)]; exact gg.h b u z
          · rw [upd_ne (ne_of_none z s1)]; exact gg.fh b u z
        · have e2 : (fun r => Q (.lst ((out ++ [d]) ++ r), true)) = fun r => Q (.lst (out ++ (d :: r)), true) := by
            funext r; rw [List.append_assoc]; rfl
          rw [e2]
          exact q6
  · have e : i = ds.length := by omega
    subst e
    rw [List.drop_length] at q2
    have q3 : Q (.lst (out ++ []), true) := q2
    rw [List.append_nil] at q3
    exact .inl ⟨i1, k _ H2 F2 (.lst out, true) (g1.trans g2) (Val.own (g1.h.free hD) fD ⟨acc, hDn, ra⟩) q3⟩
theorem re_lc {ci : CI} {g : CG} {t : CT} {xe : CB} {sl : List Nat} {scope : Scope} {own : List (Str × Nat)} (hsl : ∀ i ∈ sl, i ∈ own.map (·.2)) (hc : X.calm = true) (hN : X.N.Nodup) (hi : PI X tg iter (rdI X.K E ci)) (ok : BlkOk X.N X.env.scope scope own)
    (hg : ∀ (s : Shared) (H : Hp) (C : Addr) (cl : List (Str × Addr)) (fp : List Addr), PG (X.blk s H scope (compEnvC scope cl C X.env) fp) tg (rdG X.K E.no sl g)) (ht : ∀ (s : Shared) (H : Hp) (C : Addr) (cl : List (Str × Addr)) (fp : List Addr), PTs (X.blk s H scope (compEnvC scope cl C X.env) fp) ifs (rdT X.K E.no t))
    (he : ∀ (s : Shared) (H : Hp) (C : Addr) (cl : List (Str × Addr)) (fp : List Addr), PE (X.blk s H scope (compEnvC scope cl C X.env) fp) elt (rdF X.K E.no xe)) (hs : ∀ x, foldedSetIterable iter X.env x = pure x) :
    PE X (.ListComp elt [⟨tg, iter, ifs, 0⟩] scope pos) (rdV X.K E (cLc (own.map (·.2)) ci g t xe)) :=
  (pe_lc hc hN hi ok hg ht he hs).imp fun σ H Q' h => lc_imp hsl h
end
end DL
namespace L2
open PySem
theorem PS.imp {X : Cx} {e : Stmt} {t t' : TS} (h : PS X e t) (i : ∀ D σ H, t' D σ H → t D σ H) : PS X e t' := ⟨fun pins s σ H D I hw => h.run pins s σ H D I (i D σ H hw)⟩
theorem PSs.imp {X : Cx} {e : List Stmt} {t t' : TS} (h : PSs X e t) (i : ∀ D σ H, t' D σ H → t D σ H) : PSs X e t' := ⟨fun pins s σ H D I hw => h.run pins s σ H D I (i D σ H hw)⟩
end L2
namespace DL
open PySem L2

/-! ### statements -/
structure EndD where
  nx : Env → Prop
  rt : D → Env → Prop
  bk : Env → Prop := fun _ => False
  ct : Env → Prop := fun _ => False
  ro : D → Env → Prop := fun _ _ => False
abbrev CS := Env → EndD → (Xn → Env → Prop) → Prop
structure Lk (K : PySem.W.Frag) (B F0 : Hp) (W : EndD) (Dn : Ends) : Prop where
  nx : ∀ σ H F ρ, REnv K B F0 F H σ ρ → W.nx ρ → Dn.nx σ H
  rt : ∀ v σ H F ρ d, REnv K B F0 F H σ ρ → Rep K F v d → W.rt d ρ → Dn.rt v H
  bk : ∀ σ H F ρ, REnv K B F0 F H σ ρ → W.bk ρ → Dn.bk σ H
  ct : ∀ σ H F ρ, REnv K B F0 F H σ ρ → W.ct ρ → Dn.ct σ H
  ro : ∀ p σ H F ρ d, REnv K B F0 F H σ ρ → B p = none → F p = none → Own K F H p d → W.ro d ρ → Dn.rt (.ref p) H
def rdS (K : PySem.W.Frag) (E : EX) (c : CS) : TS := fun Dn σ H => ∃ F ρ W, REnv K E.B E.F0 F H σ ρ ∧ c ρ W E.e ∧ Lk K E.B E.F0 W Dn
section
variable {K : PySem.W.Frag} {B F0 F H F' H' : Hp} {σ : L2.St} {ρ : Env}
theorem REnv.gr0 (r : REnv K B F0 F H σ ρ) : Grow F0 B F H := ⟨r.bh, r.f0, r.fh, r.fr⟩
/-- what is known now taken for the start -/
theorem REnv.base (r : REnv K B F0 F H σ ρ) : REnv K B F F H σ ρ := ⟨r.bh, Same.refl F, r.fh, fun _ _ e => .inl e, r.len, r.cell, r.dis⟩
theorem REnv.unbase {F1 : Hp} (f : Same F0 F1) (fr : ∀ a o, F1 a = some o → F0 a = some o ∨ B a = none) (r : REnv K B F1 F H σ ρ) : REnv K B F0 F H σ ρ :=
  ⟨r.bh, f.trans r.f0, r.fh, fun a o e => (r.fr a o e).elim (fun q => fr a o q) .inr, r.len, r.cell, r.dis⟩
theorem Lk.base {F1 : Hp} {W : EndD} {Dn : Ends} (f : Same F0 F1) (fr : ∀ a o, F1 a = some o → F0 a = some o ∨ B a = none) (l : Lk K B F0 W Dn) : Lk K B F1 W Dn where
  nx := fun σ H F ρ r q => l.nx σ H F ρ (r.unbase f fr) q
  bk := fun σ H F ρ r q => l.bk σ H F ρ (r.unbase f fr) q
  ct := fun σ H F ρ r q => l.ct σ H F ρ (r.unbase f fr) q
  rt := fun v σ H F ρ d re r q => l.rt v σ H F ρ d (re.unbase f fr) r q
  ro := fun p σ H F ρ d re h1 h2 h3 q => l.ro p σ H F ρ d (re.unbase f fr) h1 h2 h3 q
def cel (k : Bool) (r : D × Bool) : Cell := if (k && r.2) = true then .ow r.1 none else .sh r.1
/-- a value to be kept in a slot -/
theorem Val.keep {v : V} {r : D × Bool} (k : Bool) (g : Grow F H F' H') (h : Val K F' H' H v r) : ∃ F2, Grow F H F2 H' ∧
    ∀ {σ : L2.St} {ρ : Env} {B F0 : Hp} (i : Nat), REnv K B F0 F H σ ρ → REnv K B F0 F2 H' (σ.set i (some v)) (ρ.set i (cel k r)) := by
  by_cases hk : (k && r.2) = true
  · have hr : r.2 = true := by rw [Bool.and_eq_true] at hk; exact hk.2
    unfold Val at h
    rw [if_pos hr] at h
    obtain ⟨p, rfl, h0, hf, o⟩ := h
    refine ⟨F', g, fun {σ ρ B F0} i re => ?_⟩
    unfold cel
    rw [if_pos hk]
    refine (re.grow g).put i ⟨p, rfl, re.bh.free h0, hf, o, fun q z => by cases z⟩ fun d z p' e1 e2 j e y hj ej es => ?_
    cases e1
    cases e2
    obtain ⟨v, h1, q, rfl, _, _, h2, _⟩ := re.cell j _ ej
    rw [es] at h1
    cases h1
    obtain ⟨u, hu⟩ := h2.there
    rw [h0] at hu; cases hu
  · obtain ⟨F2, g2, r2⟩ := h.frz g
    refine ⟨F2, g2, fun {σ ρ B F0} i re => ?_⟩
    unfold cel
    rw [if_neg hk]
    exact (re.grow g2).put_sh i r2
theorem Own.upd_ne {p q : Addr} {o : HO} {d : D} (h : Own K F H q d) (n : q ≠ p) : Own K F (upd H p o) q d := by
  cases d with
  | lst ds => obtain ⟨vs, h, r⟩ := h; exact ⟨vs, by rw [L2.upd_ne n]; exact h, r⟩
  | dct kvs => obtain ⟨ks, h, r⟩ := h; exact ⟨ks, by rw [L2.upd_ne n]; exact h, r⟩
  | obj c fs => obtain ⟨gs, ⟨C, dx, hc, h⟩, r⟩ := h; exact ⟨gs, ⟨C, dx, hc, by rw [L2.upd_ne n]; exact h⟩, r⟩
  | _ => exact h.elim
theorem Own.mo {q : Addr} {d : D} (h : Own K F H q d) (f : Same F F') : Own K F' H q d := by
  cases d with
  | lst ds => obtain ⟨vs, h, r⟩ := h; exact ⟨vs, h, r.mono f⟩
  | dct kvs => obtain ⟨ks, h, r⟩ := h; exact ⟨ks, h, r.mono f⟩
  | obj c fs => obtain ⟨gs, h, r⟩ := h; exact ⟨gs, h, r.mono f⟩
  | _ => exact h.elim
/-- one's own thing in slot i is changed -/
theorem REnv.chg (re : REnv K B F0 F H σ ρ) {i : Nat} {d0 d : D} {z0 : Option Addr} {p : Addr} {o : HO} (e : ρ[i]? = some (.ow d0 z0)) (es : σ[i]? = some (some (.ref p))) (ow : ∀ H', H' p = some o → Own K F H' p d) : REnv K B F0 F (upd H p o) σ (ρ.set i (.ow d z0)) := by
  obtain ⟨v, h1, p', rfl, hB, hF, hO, hz⟩ := re.cell i _ e
  rw [es] at h1
  cases h1
  refine ⟨fun b u z => ?_, re.f0, fun b u z => ?_, re.fr, by rw [List.length_set]; exact re.len, fun j c ej => ?_, fun j k d1 d2 z1 z2 q hjk ej ek ejs => ?_⟩
  · rw [upd_ne (ne_of_none z hB)]; exact re.bh b u z
  · rw [upd_ne (ne_of_none z hF)]; exact re.fh b u z
  · rcases set_at ej with ⟨rfl, hi, rfl⟩ | ⟨hj, ej2⟩
    · exact ⟨_, es, p, rfl, hB, hF, ow _ upd_same, hz⟩
    · obtain ⟨w, w1, w2⟩ := re.cell j c ej2
      refine ⟨w, w1, ?_⟩
      cases c with
      | no => trivial
      | sh d => exact w2
      | ow d z =>
        obtain ⟨q, rfl, q1, q2, q3, q4⟩ := w2
        refine ⟨q, rfl, q1, q2, q3.upd_ne (fun w => ?_), q4⟩
        subst w
        exact re.dis j i d d0 _ _ q hj ej2 e w1 es
  · rcases set_at ej with ⟨rfl, hi, hq⟩ | ⟨hj, ej2⟩
    · rcases set_at ek with ⟨rfl, _, _⟩ | ⟨hk, ek2⟩
      · exact absurd rfl hjk
      · exact re.dis _ k _ _ _ _ q hjk e ek2 ejs
    · rcases set_at ek with ⟨rfl, _, _⟩ | ⟨hk, ek2⟩
      · exact re.dis j _ _ _ _ _ q hjk ej2 e ejs
      · exact re.dis j k _ _ _ _ q hjk ej2 ek2 ejs
/-- one's own thing is frozen -/
theorem REnv.frz (re : REnv K B F0 F H σ ρ) {i : Nat} {d : D} {z0 : Option Addr} (e : ρ[i]? = some (.ow d z0)) : ∃ F2, REnv K B F0 F2 H σ (ρ.set i (.sh d)) := by
  obtain ⟨v, h1, p, rfl, hB, hF, hO, _⟩ := re.cell i _ e
  obtain ⟨u, hu, rp⟩ := hO.frz hF
  have fs : Same F (upd F p u) := fun b w z => by rw [upd_ne (ne_of_none z hF)]; exact z
  refine ⟨upd F p u, re.bh, re.f0.trans fs, fun b w z => ?_, fun b w z => ?_, by rw [List.length_set]; exact re.len, fun j c ej => ?_, fun j k d1 d2 z1 z2 q hjk ej ek ejs => ?_⟩
  · by_cases hb : b = p
    · subst hb; rw [upd_same] at z; rw [← z]; exact hu
    · rw [upd_ne hb] at z; exact re.fh b w z
  · by_cases hb : b = p
    · subst hb; exact .inr hB
    · rw [upd_ne hb] at z; exact re.fr b w z
  · rcases set_at ej with ⟨rfl, hi, rfl⟩ | ⟨hj, ej2⟩
    · exact ⟨_, h1, _, rfl, rp⟩
    · obtain ⟨w, w1, w2⟩ := re.cell j c ej2
      refine ⟨w, w1, ?_⟩
      cases c with
      | no => trivial
      | sh d => obtain ⟨x, rfl, r⟩ := w2; exact ⟨x, rfl, r.mono fs⟩
      | ow d' z' =>
        obtain ⟨q, rfl, q1, q2, q3, q4⟩ := w2
        have hq : q ≠ p := fun z => by
          subst z
          exact re.dis j i d' d _ _ q hj ej2 e w1 h1
        exact ⟨q, rfl, q1, by rw [upd_ne hq]; exact q2, q3.mo fs, q4⟩
  · rcases set_at ej with ⟨rfl, hi, hq⟩ | ⟨hj, ej2⟩
    · cases hq
    · rcases set_at ek with ⟨rfl, _, hq⟩ | ⟨hk, ek2⟩
      · cases hq
      · exact re.dis j k _ _ _ _ q hjk ej2 ek2 ejs
end
end DL
namespace DL
open PySem L2

def sNil : CS := fun ρ W _ => W.nx ρ
def sSeq (a b : CS) : CS := fun ρ W E => a ρ { W with nx := fun ρ' => b ρ' W E } E
def sDrop (c : CV) : CS := fun ρ W E => c ρ (fun _ => W.nx ρ) (fun x => E x ρ)
def sSet (i : Nat) (k : Bool) (c : CV) : CS := fun ρ W E => c ρ (fun r => W.nx (ρ.set i (cel k r))) (fun x => E x ρ)
def sAsg (g : CG) (c : CB) : CS := fun ρ W E => c ρ (fun d => g d ρ W.nx (fun _ => False)) (fun x => E x ρ)
def sPar (i j : Nat) (ki kj : Bool) (a b : CV) : CS := fun ρ W E => a ρ (fun r => b ρ (fun q => W.nx ((ρ.set i (cel ki r)).set j (cel kj q))) (fun x => E x ρ)) (fun x => E x ρ)
def sRet (c : CB) : CS := fun ρ W E => c ρ (fun d => W.rt d ρ) (fun x => E x ρ)
def sRetO (i : Nat) : CS := fun ρ W _ => match ρ[i]? with
  | some (.ow d _) => W.ro d ρ
  | _ => False
def sRetF (c : CV) : CS := fun ρ W E => c ρ (fun r => r.2 = true ∧ W.ro r.1 ρ) (fun x => E x ρ)
def sRetN : CS := fun ρ W _ => W.rt .non ρ
def sIf (t : CT) (a b : CS) : CS := fun ρ W E => t ρ (fun k => if k = true then a ρ W E else b ρ W E) (fun x => E x ρ)
def sBrk : CS := fun ρ W _ => W.bk ρ
def sCnt : CS := fun ρ W _ => W.ct ρ
def sNo : CS := fun _ _ _ => False
def forM (g : CG) (body : CS) : List D → CS
  | [], ρ, W, _ => W.nx ρ
  | d :: ds, ρ, W, E => g d ρ (fun ρ' => body ρ' { nx := fun ρ2 => forM g body ds ρ2 W E, rt := W.rt, bk := W.nx, ct := fun ρ2 => forM g body ds ρ2 W E, ro := W.ro } E) (fun _ => False)
def sFor (it : CI) (g : CG) (body : CS) : CS := fun ρ W E => it ρ (fun ds => forM g body ds ρ W E) (fun x => E x ρ)
def sWhile (t : CT) (body : CS) : CS := fun ρ W E => ∃ P : Nat → Env → Prop, (∃ n, P n ρ) ∧ ∀ n ρ, P n ρ →
  t ρ (fun b => if b = true then body ρ { nx := fun ρ' => ∃ m, m < n ∧ P m ρ', rt := W.rt, bk := W.nx, ct := fun ρ' => ∃ m, m < n ∧ P m ρ', ro := W.ro } E else W.nx ρ) (fun x => E x ρ)
def sFrz (i : Nat) (c : CS) : CS := fun ρ W E => match ρ[i]? with
  | some (.ow d _) => c (ρ.set i (.sh d)) W E
  | _ => c ρ W E
/-- an expression that may change what is one's own -/
abbrev CU := Env → (D → Env → Prop) → (Xn → Env → Prop) → Prop
def rdU (K : PySem.W.Frag) (E : EX) (c : CU) : TE := fun σ H Q' => ∃ F ρ Q, REnv K E.B E.F0 F H σ ρ ∧ c ρ Q E.e ∧ ∀ v H' F' d ρ', REnv K E.B E.F0 F' H' σ ρ' → Rep K F' v d → Q d ρ' → Q' v H'
def uOf (c : CB) : CU := fun ρ Q E => c ρ (fun d => Q d ρ) (fun x => E x ρ)
def uPop (j : Nat) : CU := fun ρ Q _ => match ρ[j]? with
  | some (.ow (.lst xs) z) => match xs[xs.length - 1]? with
    | some d => Q d (ρ.set j (.ow (.lst xs.dropLast) z))
    | none => False
  | _ => False
def isOwL (ρ : Env) (j : Nat) : Prop := match ρ[j]? with
  | some (.ow (.lst _) _) => True
  | _ => False
def uPopAt (j : Nat) (c : CB) : CU := fun ρ Q E => isOwL ρ j ∧ c ρ (fun y => match y, ρ[j]? with
  | .int i, some (.ow (.lst xs) z) => (-(2 ^ 63) ≤ i ∧ i < 2 ^ 63) ∧ match seqIndex? i xs.length with
    | some k => match xs[k]? with
      | some d => Q d (ρ.set j (.ow (.lst (xs.eraseIdx k)) z))
      | none => False
    | none => False
  | _, _ => False) (fun x => E x ρ)
def sSetU (i : Nat) (u : CU) : CS := fun ρ W E => u ρ (fun d ρ' => W.nx (ρ'.set i (.sh d))) E
def sApp (i : Nat) (u : CU) : CS := fun ρ W E => isOwL ρ i ∧ u ρ (fun d ρ' => match ρ'[i]? with
  | some (.ow (.lst xs) z) => xs.length < sizeLine ∧ W.nx (ρ'.set i (.ow (.lst (xs ++ [d])) z))
  | _ => False) E
def sPut (i : Nat) (c : CB) (ix : CB) : CS := fun ρ W E => isOwL ρ i ∧ c ρ (fun d => ix ρ (fun y => match y, ρ[i]? with
  | .int k, some (.ow (.lst xs) z) => match ixN xs.length k with
    | some j => W.nx (ρ.set i (.ow (.lst (xs.set j d)) z))
    | none => False
  | _, _ => False) (fun x => E x ρ)) (fun x => E x ρ)
theorem isOwL_iff {ρ : Env} {j : Nat} (h : isOwL ρ j) : ∃ xs z, ρ[j]? = some (.ow (.lst xs) z) := by
  unfold isOwL at h
  split at h
  · exact ⟨_, _, by assumption⟩
  · exact h.elim

section
variable {X : Cx} {E : EX} {pos pos' : Pos} {st : Stmt} {rest : List Stmt} {e e2 iter : Expr} {a b : CS} {c c2 : CV} {xe xi : CB} {t : CT} {g : CG}
theorem REnv.owL {K : PySem.W.Frag} {B F0 F H : Hp} {σ : L2.St} {ρ : Env} {i : Nat} {xs : List D} {z : Option Addr} (re : REnv K B F0 F H σ ρ) (e : ρ[i]? = some (.ow (.lst xs) z)) : ∃ p vs, σ[i]? = some (some (.ref p)) ∧ H p = some (.lst vs) ∧ RepL K F vs xs := by
  obtain ⟨v, h1, p, rfl, _, _, ⟨vs, h2, r⟩, _⟩ := re.cell i _ e
  exact ⟨p, vs, h1, h2, r⟩
theorem rss_nil : PSs X [] (rdS X.K E sNil) := PSs.imp pss_nil fun Dn σ H ⟨F, ρ, W, re, h, l⟩ => l.nx σ H F ρ re h
theorem rss_one (h : PS X st (rdS X.K E a)) : PSs X [st] (rdS X.K E a) := pss_one h
theorem rss_cons (h1 : PS X st (rdS X.K E a)) (h2 : PSs X rest (rdS X.K E b)) : PSs X (st :: rest) (rdS X.K E (sSeq a b)) := PSs.imp (pss_cons h1 h2) fun Dn σ H ⟨F, ρ, W, re, h, l⟩ =>
  ⟨F, ρ, _, re, h, ⟨fun σ' H' F' ρ' r q => ⟨F', ρ', W, r, q, l⟩, l.rt, l.bk, l.ct, l.ro⟩⟩
theorem rs_pass : PS X (.Pass pos) (rdS X.K E sNil) := PS.imp ps_pass fun Dn σ H ⟨F, ρ, W, re, h, l⟩ => l.nx σ H F ρ re h
theorem rs_brk : PS X (.Break pos) (rdS X.K E sBrk) := PS.imp ps_break fun Dn σ H ⟨F, ρ, W, re, h, l⟩ => l.bk σ H F ρ re h
theorem rs_cnt : PS X (.Continue pos) (rdS X.K E sCnt) := PS.imp ps_continue fun Dn σ H ⟨F, ρ, W, re, h, l⟩ => l.ct σ H F ρ re h
theorem rs_no : PS X st (rdS X.K E sNo) := PS.imp ps_never fun Dn σ H ⟨F, ρ, W, re, h, l⟩ => h
theorem rs_drop (he : PE X e (rdV X.K E c)) (hs : swapsWith e none pos.line X.env = pure false) : PS X (.Expr e pos) (rdS X.K E (sDrop c)) := PS.imp (ps_expr he hs) fun Dn σ H ⟨F, ρ, W, re, h, l⟩ =>
  ⟨F, ρ, _, re, h, fun v H' F' r gr _ q => l.nx σ H' F' ρ (re.grow gr) q⟩
theorem set_imp {K : PySem.W.Frag} {i : Nat} {k : Bool} {Dn : Ends} {σ : L2.St} {H : Hp} (hw : rdS K E (sSet i k c) Dn σ H) : rdV K E c σ H fun x H1 => gName i x σ H1 Dn.nx := by
  obtain ⟨F, ρ, W, re, h, l⟩ := hw
  refine ⟨F, ρ, _, re, h, fun v H' F' r gr vr q => ?_⟩
  obtain ⟨F2, g2, kp⟩ := vr.keep k gr
  exact l.nx _ _ _ _ (kp i re) q
theorem rs_set {i : Nat} {x : Str} (k : Bool) (hN : X.N.Nodup) (hi : X.N[i]? = some x) (hx : Loc X.env.scope x) (hf : X.fn x = true ∨ X.env.scope.names.lookup x = some .local) (he : PE X e (rdV X.K E c)) (hs : swapsWith e (some (.Name x pos')) pos.line X.env = pure false) :
    PS X (.Assign [.Name x pos'] e pos) (rdS X.K E (sSet i k c)) := PS.imp (ps_set hN hi hx he hs hf) fun Dn σ H h => set_imp h
theorem rs_setU {i : Nat} {x : Str} {u : CU} (hN : X.N.Nodup) (hi : X.N[i]? = some x) (hx : Loc X.env.scope x) (hf : X.fn x = true ∨ X.env.scope.names.lookup x = some .local) (he : PE X e (rdU X.K E u)) (hs : swapsWith e (some (.Name x pos')) pos.line X.env = pure false) :
    PS X (.Assign [.Name x pos'] e pos) (rdS X.K E (sSetU i u)) := PS.imp (ps_set hN hi hx he hs hf) fun Dn σ H ⟨F, ρ, W, re, h, l⟩ =>
  ⟨F, ρ, _, re, h, fun v H' F' d ρ' re' r q => l.nx _ _ _ _ (re'.put_sh i r) q⟩
theorem rs_asg {sl : List Nat} {tg : Expr} (he : PE X e (rdF X.K E xe)) (hg : PG X tg (rdG X.K E sl g)) (hs : swapsWithSole [tg] e pos.line X.env = pure false) (hw : swappedStores [tg] e X.env = pure none) (h1 : (assignEach [tg] X.env).map (·.2) = [assign tg X.env]) :
    PS X (.Assign [tg] e pos) (rdS X.K E (sAsg g xe)) := PS.imp (ps_asg he hg hs hw h1) fun Dn σ H ⟨F, ρ, W, re, h, l⟩ =>
  ⟨F, ρ, _, re, h, fun v H' F' d gr r q => ⟨F', ρ, _, d, re.grow gr, r, q, fun σ' ρ' _ _ re' q' => l.nx σ' H' F' ρ' re' q'⟩⟩
theorem rs_par {i j : Nat} {x y : Str} {px py pt : Pos} {kt k2 pt2} (ki kj : Bool) (hc : X.calm = true) (hN : X.N.Nodup) (hi : X.N[i]? = some x) (hj : X.N[j]? = some y) (hij : i ≠ j)
    (hx : X.env.scope.names.lookup x = some .local) (hy : X.env.scope.names.lookup y = some .local) (ha : PE X e (rdV X.K E c)) (hb : PE X e2 (rdV X.K E c2)) (hst : starEach [e, e2] X.env = (false, eval e X.env) :: starEach [e2] X.env) (hst2 : starEach [e2] X.env = (false, eval e2 X.env) :: starEach [] X.env)
    (hw : swappedStores [.Tuple [.Name x px, .Name y py] kt pt] (.Tuple [e, e2] k2 pt2) X.env = pure (some [x, y])) (hs : swapsWithSole [.Tuple [.Name x px, .Name y py] kt pt] (.Tuple [e, e2] k2 pt2) pos.line X.env = pure false) :
    PS X (.Assign [.Tuple [.Name x px, .Name y py] kt pt] (.Tuple [e, e2] k2 pt2) pos) (rdS X.K E (sPar i j ki kj c c2)) :=
  PS.imp (ps_par hc hN hi hj hij hx hy (pa_cons ha (pa_cons hb pa_nil hst2) hst) hw hs) fun Dn σ H ⟨F, ρ, W, re, h, l⟩ => by
    refine ⟨F, ρ, _, re, h, fun v H1 F1 r g1 v1 q1 => ?_⟩
    obtain ⟨F2, g2, kp⟩ := v1.keep ki g1
    refine ⟨F2, ρ, _, re.grow g2, q1, fun w H3 F3 r3 g3 v3 q3 => ⟨v, w, rfl, ?_⟩⟩
    obtain ⟨F4, g4, kp2⟩ := v3.keep kj g3
    exact l.nx _ _ _ _ (kp2 j (kp i re)) q3
theorem rs_ret (he : PE X e (rdF X.K E xe)) : PS X (.Return (some e) pos) (rdS X.K E (sRet xe)) := PS.imp (ps_ret he) fun Dn σ H ⟨F, ρ, W, re, h, l⟩ =>
  ⟨F, ρ, _, re, h, fun v H' F' d gr r q => l.rt v _ H' F' ρ d (re.grow gr) r q⟩
/-- what is one's own is given out as it is -/
theorem rs_retO {i : Nat} {x : Str} (hN : X.N[i]? = some x) (hv : Vis X.env.scope x) (hd : (x == ("__debug__" : Str)) = false) (hcd : (x == ("__classdict__" : Str)) = false) : PS X (.Return (some (.Name x pos')) pos) (rdS X.K E (sRetO i)) :=
  PS.imp (ps_ret (pe_var hN hv hd hcd)) fun Dn σ H ⟨F, ρ, W, re, h, l⟩ => by
    unfold sRetO at h
    split at h
    · rename_i d z e
      obtain ⟨v, h1, p, rfl, hB, hF, hO, _⟩ := re.cell i _ e
      exact ⟨_, h1, l.ro p σ H F ρ d re hB hF hO h⟩
    · exact h.elim
theorem rs_retF (he : PE X e (rdV X.K E c)) : PS X (.Return (some e) pos) (rdS X.K E (sRetF c)) := PS.imp (ps_ret he) fun Dn σ H ⟨F, ρ, W, re, h, l⟩ =>
  ⟨F, ρ, _, re, h, fun v H' F' r gr vr q => by
    obtain ⟨hr, q⟩ := q
    unfold Val at vr
    rw [if_pos hr] at vr
    obtain ⟨p, rfl, h0, hf, o⟩ := vr
    exact l.ro p σ H' F' ρ r.1 (re.grow gr) (re.bh.free h0) hf o q⟩
theorem rs_retN : PS X (.Return none pos) (rdS X.K E sRetN) := PS.imp ps_retN fun Dn σ H ⟨F, ρ, W, re, h, l⟩ => l.rt .non _ H F ρ .non re .non h
theorem rs_if {ss ss2 : List Stmt} (ht : PT X e (rdT X.K E t)) (ha : PSs X ss (rdS X.K E a)) (hb : PSs X ss2 (rdS X.K E b)) : PS X (.If e ss ss2 pos) (rdS X.K E (sIf t a b)) := PS.imp (ps_if ht ha hb) fun Dn σ H ⟨F, ρ, W, re, h, l⟩ =>
  ⟨F, ρ, _, re, h, fun k H1 F1 g1 q => by
    cases k with
    | true => exact ⟨F1, ρ, W, re.grow g1, q, l⟩
    | false => exact ⟨F1, ρ, W, re.grow g1, q, l⟩⟩
theorem rs_while {ss : List Stmt} (hp : PassesOwn (model X.prog X.w) X.A X.env X.xe) (ht : PT X e (rdT X.K E t)) (hb : PSs X ss (rdS X.K E b)) : PS X (.While e ss [] pos) (rdS X.K E (sWhile t b)) :=
  PS.imp (ps_while hp ht hb) fun Dn σ H ⟨F, ρ, W, re, h, l⟩ => by
    obtain ⟨P, ⟨n, h0⟩, hs⟩ := h
    refine ⟨fun m σ H => ∃ F ρ, REnv X.K E.B E.F0 F H σ ρ ∧ P m ρ, ⟨n, F, ρ, re, h0⟩, ?_⟩
    rintro m σ1 H1 ⟨F1, ρ1, re1, p1⟩
    refine ⟨F1, ρ1, _, re1, hs m ρ1 p1, fun k H2 F2 g2 q => ?_⟩
    cases k with
    | false => exact l.nx _ _ _ _ (re1.grow g2) q
    | true =>
      refine ⟨fun σ' H' => ∃ m', m' < m ∧ ∃ F ρ, REnv X.K E.B E.F0 F H' σ' ρ ∧ P m' ρ, fun σ' H' z => z, F2, ρ1, _, re1.grow g2, q, ?_⟩
      exact ⟨fun σ' H' F' ρ' r ⟨m', hm, p⟩ => ⟨m', hm, F', ρ', r, p⟩, l.rt, fun σ' H' F' ρ' r p => l.nx _ _ _ _ r p, fun σ' H' F' ρ' r ⟨m', hm, p⟩ => ⟨m', hm, F', ρ', r, p⟩, l.ro⟩
/-- what is known now taken for the start -/
def EX.up (E : EX) (F1 : Hp) : EX := ⟨E.B, F1, E.e⟩
def Upd (E : EX) (F1 : Hp) : Prop := Same E.F0 F1 ∧ ∀ a o, F1 a = some o → E.F0 a = some o ∨ E.B a = none
theorem Upd.refl (E : EX) : Upd E E.F0 := ⟨Same.refl _, fun _ _ e => .inl e⟩
theorem Upd.takes {F1 : Hp} (u : Upd E F1) (tk : Takes X (wX X.K E)) : Takes X (wX X.K (E.up F1)) := tk.imp fun c d σ H ⟨F, ρ, x, re, xr, q⟩ => ⟨F, ρ, x, re.unbase u.1 u.2, xr, q⟩
theorem rs_for {ss : List Stmt} {tg : Expr} {sl : List Nat} {ci : CI} (hp : PassesOwn (model X.prog X.w) X.A X.env X.xe) (hc : X.calm = true) (hi : PI X tg iter (rdI X.K E ci)) (hg : PG X tg (rdG X.K E sl g)) (hb : ∀ F1, Upd E F1 → PSs X ss (rdS X.K (E.up F1) b)) (hs : ∀ x, foldedSetIterable iter X.env x = pure x) :
    PS X (.For tg iter ss [] pos) (rdS X.K E (sFor ci g b)) := PS.imp (ps_for (tb := fun Dn σ H => ∃ F1, Upd E F1 ∧ rdS X.K (E.up F1) b Dn σ H) hp hc hi hg ⟨fun pins s σ H D I ⟨F1, u, h⟩ => (hb F1 u).run pins s σ H D I h⟩ hs) fun Dn σ H ⟨F, ρ, W, re, h, l⟩ => by
  refine ⟨F, ρ, _, re, h, fun J H1 F1 ds g1 io q => ?_⟩
  have re1 := re.grow g1
  have u : Upd E F1 := ⟨re1.f0, re1.fr⟩
  have un : ∀ {F2 H2 : Hp} {σ2 : L2.St} {ρ2 : Env}, REnv X.K E.B F1 F2 H2 σ2 ρ2 → REnv X.K E.B E.F0 F2 H2 σ2 ρ2 := fun r => r.unbase u.1 u.2
  have l1 : Lk X.K E.B F1 W Dn := l.base u.1 u.2
  refine ⟨fun i m σ H => m = ds.length - i ∧ i ≤ ds.length ∧ ∃ F2 ρ2, REnv X.K E.B F1 F2 H σ ρ2 ∧ forM g b (ds.drop i) ρ2 W E.e, ⟨ds.length, by simp, Nat.zero_le _, F1, ρ, re1.base, q⟩, ?_⟩
  rintro i m σ2 H2 ⟨rfl, hi, F2, ρ2, re2, q2⟩
  obtain ⟨i1, i2⟩ := io F2 H2 re2.f0 re2.fh
  by_cases hlt : i < ds.length
  · obtain ⟨go, yl⟩ := i2 i _ (List.getElem?_eq_getElem hlt)
    rw [List.drop_eq_getElem_cons hlt] at q2
    refine .inr ⟨go, fun σ' H' => ∃ F2 ρ2, REnv X.K E.B F1 F2 H' σ' ρ2 ∧ forM g b (ds.drop (i + 1)) ρ2 W E.e, fun σ' H' z => ⟨ds.length - (i + 1), by omega, rfl, hlt, z⟩, fun x H3 y => ?_⟩
    obtain ⟨F3, g3, r3⟩ := yl x H3 y
    have re3 := re2.grow g3
    refine ⟨F3, ρ2, _, _, un re3, r3, q2, fun σ4 ρ4 _ _ re4 q4 => ⟨F1, u, F3, ρ4, _, ⟨re4.bh, re3.f0, re4.fh, re3.fr, re4.len, re4.cell, re4.dis⟩, q4, ?_⟩⟩
    exact ⟨fun σ' H' F' ρ' r p => ⟨F', ρ', r, p⟩, l1.rt, fun σ' H' F' ρ' r p => l1.nx _ _ _ _ r p, fun σ' H' F' ρ' r p => ⟨F', ρ', r, p⟩, l1.ro⟩
  · have e : i = ds.length := by omega
    subst e
    rw [List.drop_length] at q2
    exact .inl ⟨i1, l1.nx _ _ _ _ re2 q2⟩
theorem rs_frz (i : Nat) (h : PS X st (rdS X.K E a)) : PS X st (rdS X.K E (sFrz i a)) := h.imp fun Dn σ H ⟨F, ρ, W, re, h, l⟩ => by
  unfold sFrz at h
  split at h
  · rename_i d z e
    obtain ⟨F2, re2⟩ := re.frz e
    exact ⟨F2, _, W, re2, h, l⟩
  · exact ⟨F, ρ, W, re, h, l⟩

/-! ### changing one's own lists -/
theorem ru_of (he : PE X e (rdF X.K E xe)) : PE X e (rdU X.K E (uOf xe)) := he.imp fun σ H Q' ⟨F, ρ, Q, re, h, k⟩ =>
  ⟨F, ρ, _, re, h, fun v H' F' d gr r q => k v H' F' d ρ (re.grow gr) r q⟩
theorem re_own {i : Nat} {x : Str} (hN : X.N[i]? = some x) (hv : Vis X.env.scope x) (hd : (x == ("__debug__" : Str)) = false) (hcd : (x == ("__classdict__" : Str)) = false) : PE X (.Name x pos) (tVar i) := pe_var hN hv hd hcd
theorem ru_pop {j : Nat} {x : Str} {apos cpos : Pos} (hN : X.N[j]? = some x) (hv : Vis X.env.scope x) (hd : (x == ("__debug__" : Str)) = false) (hcd : (x == ("__classdict__" : Str)) = false)
    (hbase : attributeBase (.Name x pos) "pop" X.env (eval (.Name x pos) X.env) = eval (.Name x pos) X.env) (hline : (apos.endLine == cpos.line) = true) : PE X (.Call (.Attribute (.Name x pos) "pop" apos) [] [] cpos) (rdU X.K E (uPop j)) :=
  (pe_bm0 F.plainAttrs_list F.slot_list_pop rfl mt_pop (pe_var hN hv hd hcd) hbase hline).imp fun σ H Q' ⟨F, ρ, Q, re, h, k⟩ => by
    unfold uPop at h
    split at h
    · rename_i xs z e
      split at h
      · rename_i d ed
        obtain ⟨p, vs, es, hp, r⟩ := re.owL e
        obtain ⟨v, ev, rv⟩ := r.get ed
        refine ⟨_, es, .inl ⟨rfl, _, SqL.of hp⟩, p, vs, v, rfl, rfl, hp, by rw [r.length]; exact ev, ?_⟩
        exact k v _ F d _ (re.chg e es fun H' h' => Own.mkL h' r.dropLast) rv h
      · exact h.elim
    · exact h.elim
theorem ru_popAt {j : Nat} {x : Str} {apos cpos : Pos} (hN : X.N[j]? = some x) (hv : Vis X.env.scope x) (hd : (x == ("__debug__" : Str)) = false) (hcd : (x == ("__classdict__" : Str)) = false) (he : PE X e (rdF X.K E xe))
    (hbase : attributeBase (.Name x pos) "pop" X.env (eval (.Name x pos) X.env) = eval (.Name x pos) X.env)
    (hfew : ((backTo cpos (starEach [e] X.env)).all (fun x => !x.1) && (backToKw cpos (keywordEach [] X.env)).all (fun x => x.1.isSome) && decide ([e].length + ([] : List Keyword).length + (if ([] : List Keyword).isEmpty then 0 else 1) < 30)) = true)
    (hline : (apos.endLine == cpos.line) = true) (hs : starEach [e] X.env = (false, eval e X.env) :: starEach [] X.env) (hpl : (backTo cpos (starEach [] X.env)).any (·.1) = false) :
    PE X (.Call (.Attribute (.Name x pos) "pop" apos) [e] [] cpos) (rdU X.K E (uPopAt j xe)) :=
  (pe_bm F.plainAttrs_list F.slot_list_pop rfl mt_popAt (pe_var hN hv hd hcd) (pa_cons he pa_nil hs) hbase hfew hline hs hpl).imp fun σ H Q' ⟨F, ρ, Q, re, h, k⟩ => by
    obtain ⟨h0, h⟩ := h
    obtain ⟨xs, z0, ex⟩ := isOwL_iff h0
    obtain ⟨p, vs, es, hp, r⟩ := re.owL ex
    refine ⟨_, es, .inl ⟨rfl, _, SqL.of hp⟩, F, ρ, _, re, h, fun w H' F' d gr rd q => ?_⟩
    have re' := re.grow gr
    split at q
    · rename_i i xs' z e2
      rw [ex] at e2
      cases e2
      cases rd
      obtain ⟨hb, q⟩ := q
      split at q
      · rename_i n en
        split at q
        · rename_i d ed
          have r' := r.mono gr.f
          obtain ⟨v, ev, rv⟩ := r'.get ed
          have hp' := gr.h _ _ hp
          refine ⟨p, vs, i, n, v, rfl, rfl, hp', hb.1, hb.2, by rw [r.length]; exact en, ev, ?_⟩
          exact k v _ F' d _ (re'.chg ex es fun H2 h2 => Own.mkL h2 (r'.eraseIdx n)) rv q
        · exact q.elim
      · exact q.elim
    · exact q.elim
theorem rs_app {i : Nat} {x : Str} {u : CU} {apos cpos : Pos} (hN : X.N[i]? = some x) (hv : Vis X.env.scope x) (hd : (x == ("__debug__" : Str)) = false) (hcd : (x == ("__classdict__" : Str)) = false) (he : PE X e (rdU X.K E u))
    (hbase : attributeBase (.Name x pos) "append" X.env (eval (.Name x pos) X.env) = eval (.Name x pos) X.env)
    (hfew : ((backTo cpos (starEach [e] X.env)).all (fun x => !x.1) && (backToKw cpos (keywordEach [] X.env)).all (fun x => x.1.isSome) && decide ([e].length + ([] : List Keyword).length + (if ([] : List Keyword).isEmpty then 0 else 1) < 30)) = true)
    (hline : (apos.endLine == cpos.line) = true) (hs : starEach [e] X.env = (false, eval e X.env) :: starEach [] X.env) (hpl : (backTo cpos (starEach [] X.env)).any (·.1) = false)
    (hsw : swapsWith (.Call (.Attribute (.Name x pos) "append" apos) [e] [] cpos) none pos'.line X.env = pure false) :
    PS X (.Expr (.Call (.Attribute (.Name x pos) "append" apos) [e] [] cpos) pos') (rdS X.K E (sApp i u)) :=
  PS.imp (ps_expr (pe_bm F.plainAttrs_list F.slot_list_append rfl mt_append (pe_var hN hv hd hcd) (pa_cons he pa_nil hs) hbase hfew hline hs hpl) hsw) fun Dn σ H ⟨F, ρ, W, re, h, l⟩ => by
    obtain ⟨h0, h⟩ := h
    obtain ⟨xs, z0, ex⟩ := isOwL_iff h0
    obtain ⟨p, vs, es, hp, r⟩ := re.owL ex
    refine ⟨_, es, .inl ⟨rfl, _, SqL.of hp⟩, F, ρ, _, re, h, fun w H' F' d ρ' re' rd q => ?_⟩
    split at q
    · rename_i xs' z e2
      obtain ⟨p2, vs2, es2, hp2, r2⟩ := re'.owL e2
      rw [es] at es2
      cases es2
      refine ⟨p, vs2, w, rfl, rfl, hp2, by rw [r2.length]; exact q.1, ?_⟩
      exact l.nx _ _ _ _ (re'.chg e2 es fun H2 h2 => Own.mkL h2 (r2.append (.cons rd .nil))) q.2
    · exact q.elim
theorem rs_put {i : Nat} {x : Str} (hN : X.N[i]? = some x) (hv : Vis X.env.scope x) (hd : (x == ("__debug__" : Str)) = false) (hcd : (x == ("__classdict__" : Str)) = false) (he : PE X e (rdF X.K E xe)) (hi : PE X e2 (rdF X.K E xi)) {p1 p2 : Pos}
    (ha : ∀ v, assign (.Subscript (.Name x p1) e2 p2) X.env v = (do
      let ov ← holding [v] (eval (.Name x p1) X.env)
      let iv ← holding [v, ov] (eval e2 X.env)
      standAt p2
      holding [v, ov, iv] (setItem ov iv v)
      release [v, ov, iv] []))
    (hs : swapsWithSole [.Subscript (.Name x p1) e2 p2] e pos.line X.env = pure false) (hw : swappedStores [.Subscript (.Name x p1) e2 p2] e X.env = pure none) (h1 : (assignEach [.Subscript (.Name x p1) e2 p2] X.env).map (·.2) = [assign (.Subscript (.Name x p1) e2 p2) X.env]) :
    PS X (.Assign [.Subscript (.Name x p1) e2 p2] e pos) (rdS X.K E (sPut i xe xi)) :=
  PS.imp (ps_asg he (pg_sub (pe_var hN hv hd hcd) hi set_list ha) hs hw h1) fun Dn σ H ⟨F, ρ, W, re, h, l⟩ => by
    obtain ⟨h0, h⟩ := h
    obtain ⟨xs0, z0, ex⟩ := isOwL_iff h0
    obtain ⟨p, vs0, ez, hp0, r0⟩ := re.owL ex
    refine ⟨F, ρ, _, re, h, fun w H1 F1 d g1 rd q => ⟨_, ez, F1, ρ, _, re.grow g1, q, fun y H2 F2 d2 g2 r2 q2 => ?_⟩⟩
    have re2 := (re.grow g1).grow g2
    split at q2
    · rename_i k xs z e2
      cases r2
      obtain ⟨p', vs, es, hp, r⟩ := re2.owL e2
      rw [ez] at es
      cases es
      split at q2
      · rename_i j ej
        refine ⟨p, vs, k, j, rfl, rfl, hp, by rw [r.length]; exact ej, ?_⟩
        exact l.nx _ _ _ _ (re2.chg e2 ez fun H3 h3 => Own.mkL h3 (r.set (rd.mono g2.f) j)) q2
      · exact q2.elim
    · exact q2.elim
end
end DL
namespace DL
open PySem L2

/-! ### the reader of a text: what it computes -/
inductive GV where
  | fn (n : Nat) (m : List D → M D) (kw : List (Nat × List Str × List Nat))
  | fo (n : Nat) (m : List D → M D) (kw : List (Nat × List Str × List Nat))
  | cv (d : D)
  | bi (id : String) (m : List D → M (D × Bool))
  | ty (T : String) (m : List D → M (D × Bool))
  | sp
  | cls (fl : List Str)
  | me (c m : Str) (n : Nat) (mm : List D → M D) (kw : List (Nat × List Str × List Nat))
  | xc (fo : Option Str)
  | ini (c : Str) (n : Nat) (mo : MO) (kw : List (Nat × List Str × List Nat))
  | spi (c dn : Str) (n : Nat) (mo : MO)
  | cc (c f : Str) (d : D)
  | stm (c m : Str) (n : Nat) (mm : List D → M D) (kw : List (Nat × List Str × List Nat))
  | isa (c d : Str) (b : Bool)
  | mo (c m : Str) (n : Nat) (mm : MO) (kw : List (Nat × List Str × List Nat))
  | ops (c : Str) (os : List Operator) (ne : Bool)
  | pr (c f : Str) (mm : List D → M D)
  | xb (c : Str)
  | xis (c d : Str) (b : Bool)
  | bt (T : String)
  | xit (c : Str) (T : String) (b : Bool)
/-- C.m is a static method: its record at p, its def at g -/
structure StM (K : PySem.W.Frag) (C : Addr) (mc : Value) (m : Str) (p g : Addr) : Prop where
  rd : ClX.CRead K C mc
  at_ : PySem.W.findCls K (.ref C) mc m = some (.get (.builtin "staticmethod.__get__") (.ref p) .none (.ref C))
  rc : ∃ rest, PySem.W.recIn K p "staticmethod" = some (.ref g :: rest)
  fi : PySem.W.fnIn K g = true
  kp : PySem.W.keepIn K (.ref g) = true
/-- what the written part says of an operator of an own class -/
def tys7 : List String := ["NoneType", "bool", "int", "str", "list", "tuple", "dict"]
def opB (K : PySem.W.Frag) (C : Addr) (op : Operator) : Bool :=
  PySem.W.selfFirst K C && (match PySem.W.findIn K (.ref C) (dunderR op.info.2) with | some none => true | some (some (.ref _)) => true | _ => false) &&
  tys7.all fun T => (PySem.W.findIn K (.type T) (PySem.dunder op.info.2)).isSome && (PySem.W.findIn K (.type T) (dunderR op.info.2)).isSome
structure Sg where
  N : List Str
  sc : Scope
  st : List Str
  gl : List (Str × GV)
  own : List Nat
  ro : Bool := false
  blk : Bool := false
  nt : Bool := false
def GvOk (X : Cx) (x : Str) : GV → Prop
  | .fn n m kw => ∃ (k : Nat) (f : Addr) (fd : FuncData) (ps : List Str), FnG X.prog X.w X.K X.mg X.base (L2.CX X.prog X.w) k f fd ps (SpM X.K ps.length m) ∧ Room k X.A ∧ X.mg x = some (.ref f) ∧ PySem.W.keepIn X.K (.ref f) = true ∧ Binds X.K fd ps [] ∧ ps.length = n ∧
      ∀ z ∈ kw, KwOk X.K fd ps z.1 z.2.1 z.2.2
  | .fo n m kw => ∃ (k : Nat) (f : Addr) (fd : FuncData) (ps : List Str), FnG X.prog X.w X.K X.mg X.base (L2.CX X.prog X.w) k f fd ps (SpF true X.K ps.length m) ∧ Room k X.A ∧ X.mg x = some (.ref f) ∧ PySem.W.keepIn X.K (.ref f) = true ∧ Binds X.K fd ps [] ∧ ps.length = n ∧
      ∀ z ∈ kw, KwOk X.K fd ps z.1 z.2.1 z.2.2
  | .cv d => ∃ (v : V) (u : Value), X.mg x = some u ∧ RelV v u ∧ ∀ F, Rep X.K F v d
  | .bi id m => X.mg x = none ∧ bootBuiltins x = some (.builtin id) ∧ x ≠ "__name__" ∧ ∀ Y : Cx, Y.calm = true → Y.A.guards = some [] → Y.A.units + 110 < cLine → CallR Y (.builtin id) (rcM Y.K m)
  | .ty T m => X.mg x = none ∧ bootBuiltins x = some (.type T) ∧ x ≠ "__name__" ∧ ∀ Y : Cx, Y.calm = true → Y.A.guards = some [] → Y.A.units + 110 < cLine → CallR Y (.type T) (rcM Y.K m)
  | .sp => X.mg x = none
  | .cls fl => ∃ C, ClsAt X.K x C ∧ X.mg x = some (.ref C) ∧ ClsX X.K C ∧ ∀ f ∈ fl, NoAttr X.K C f
  | .xc fo => ∃ (C fI : Addr) (fd : FuncData) (k : Nat), ClsAt X.K x C ∧ X.mg x = some (.ref C) ∧ XMk X.prog X.w X.K X.mg X.base k C fI fd fo ∧ ExcC X.K C ∧ XfC X.K C ∧ Room (k + 1) X.A
  | .ini c n mo kw => ∃ (C f : Addr) (k : Nat) (fd : FuncData) (ps : List Str), ClsAt X.K c C ∧ X.mg c = some (.ref C) ∧ Mk X.K C f ∧ FnG X.prog X.w X.K X.mg X.base (L2.CX X.prog X.w) k f fd ps (SpO X.K ps.length mo) ∧ Room (k + 1) X.A ∧ Binds X.K fd ps [] ∧ ps.length = n + 1 ∧
      ∀ z ∈ kw, KwOk X.K fd ps (z.1 + 1) z.2.1 (0 :: z.2.2.map (· + 1))
  | .spi c dn n mo => ∃ (C Da f : Addr) (k : Nat) (fd : FuncData) (ps : List Str), ClsAt X.K c C ∧ ClsAt X.K dn Da ∧ PySem.W.mroIn X.K C (.ref Da) = some true ∧ PySem.W.ks_superIn X.K C Da "__init__" = some (some (.ref f)) ∧ PySem.W.typeIn X.K (.ref f) = some (.type "function") ∧ PySem.W.fnIn X.K f = true ∧
      PySem.W.nsIn X.K cStatics "thirdparty.any" = some none ∧ FnG X.prog X.w X.K X.mg X.base (L2.CX X.prog X.w) k f fd ps (SpO X.K ps.length mo) ∧ Room k X.A ∧ Binds X.K fd ps [] ∧ ps.length = n + 1
  | .cc c f d => ∃ (C : Addr) (v : V) (u : Value), ClsAt X.K c C ∧ Cls X.K C ∧ Con X.K C f v u ∧ ∀ F, Rep X.K F v d
  | .stm c m n mm kw => ∃ (C p g : Addr) (mc : Value) (k : Nat) (fd : FuncData) (ps : List Str), ClsAt X.K c C ∧ X.mg c = some (.ref C) ∧ StM X.K C mc m p g ∧ FnG X.prog X.w X.K X.mg X.base (L2.CX X.prog X.w) k g fd ps (SpM X.K ps.length mm) ∧ Room k X.A ∧ Binds X.K fd ps [] ∧ ps.length = n ∧
      ∀ z ∈ kw, KwOk X.K fd ps z.1 z.2.1 z.2.2
  | .isa c d b => ∃ (C Da : Addr), ClsAt X.K c C ∧ ClsAt X.K d Da ∧ X.mg d = some (.ref Da) ∧ PySem.W.kitOne X.K (.ref C) (.ref Da) = some b
  | .ops c os ne => ∃ C : Addr, ClsAt X.K c C ∧ (∀ op ∈ os, opB X.K C op = true) ∧ (ne = true → PySem.W.findIn X.K (.ref C) "__ne__" = some (some (.builtin "object.__ne__")))
  | .mo c m n mm kw => ∃ (C : Addr) (k : Nat) (f : Addr) (fd : FuncData) (ps : List Str), ClsAt X.K c C ∧ Cls X.K C ∧ Meth X.K C m f ∧ FnG X.prog X.w X.K X.mg X.base (L2.CX X.prog X.w) k f fd ps (SpO X.K ps.length mm) ∧ Room k X.A ∧ Binds X.K fd ps [] ∧ ps.length = n ∧ ∀ z ∈ kw, KwOk X.K fd ps (z.1 + 1) z.2.1 (0 :: z.2.2.map (· + 1))
  | .me c m n mm kw => ∃ (C : Addr) (k : Nat) (f : Addr) (fd : FuncData) (ps : List Str), ClsAt X.K c C ∧ Cls X.K C ∧ Meth X.K C m f ∧ FnG X.prog X.w X.K X.mg X.base (L2.CX X.prog X.w) k f fd ps (SpM X.K ps.length mm) ∧ Room (k + 1) X.A ∧ Binds X.K fd ps [] ∧ ps.length = n ∧ ∀ z ∈ kw, KwOk X.K fd ps (z.1 + 1) z.2.1 (0 :: z.2.2.map (· + 1))
  | .pr c f mm => ∃ (C : Addr) (k : Nat) (p g : Addr) (fd : FuncData) (ps : List Str), ClsAt X.K c C ∧ Cls X.K C ∧ PropOf X.K C f p g ∧ FnG X.prog X.w X.K X.mg X.base (L2.CX X.prog X.w) k g fd ps (SpM X.K ps.length mm) ∧ Room (k + 1) X.A ∧ Binds X.K fd ps [] ∧ ps.length = 1
  | .xb c => ∃ C : Addr, ClsAt X.K c C ∧ X.mg c = some (.ref C) ∧ PySem.W.kitCls X.K (.type "int") (.ref C) = some false
  | .xis c d b => ∃ (C Da : Addr), ClsAt X.K c C ∧ ClsAt X.K d Da ∧ PySem.W.kitOne X.K (.ref C) (.ref Da) = some b ∧ PySem.W.exmOne X.K (.ref C) (.ref Da) = some b
  | .bt T => X.mg x = none ∧ bootBuiltins x = some (.type T) ∧ x ≠ "__name__"
  | .xit c T b => ∃ C : Addr, ClsAt X.K c C ∧ PySem.W.kitOne X.K (.ref C) (.type T) = some b
structure SgOk (X : Cx) (g : Sg) (E : EX) : Prop where
  tk : Takes X (wX X.K E)
  N : X.N = g.N
  nd : g.N.Nodup
  sc : X.env.scope = g.sc
  kind : g.sc.kind = .function
  calm : X.calm = true
  gd : X.A.guards = some []
  un : X.A.units + 110 < cLine
  st : ∀ x ∈ g.st, Loc g.sc x ∧ (X.fn x = true ∨ g.sc.names.lookup x = some .local)
  gl : ∀ x v, g.gl.lookup x = some v → GvOk X x v
  fr : g.blk = false → X.stack = X.env :: X.outer ∧ X.env.frame = some X.env.locals ∧ X.ex = []
  ef : g.nt = false → ∀ x ρ ρ', E.e x ρ → E.e x ρ'
structure Rec where
  v : Sg → Expr → Option CV
  t : Sg → Expr → Option CT
  i : Sg → Expr → Expr → Option CI
  s : Sg → Stmt → Option CS
structure RecOk (r : Rec) : Prop where
  v : ∀ {X : Cx} {g : Sg} {E : EX} {e : Expr} {c : CV}, SgOk X g E → r.v g e = some c → PE X e (rdV X.K E c)
  t : ∀ {X : Cx} {g : Sg} {E : EX} {e : Expr} {c : CT}, SgOk X g E → r.t g e = some c → PT X e (rdT X.K E c)
  i : ∀ {X : Cx} {g : Sg} {E : EX} {tg e : Expr} {c : CI}, SgOk X g E → r.i g tg e = some c → PI X tg e (rdI X.K E c)
  s : ∀ {X : Cx} {g : Sg} {E : EX} {st : Stmt} {c : CS}, SgOk X g E → PassesOwn (model X.prog X.w) X.A X.env X.xe → r.s g st = some c → PS X st (rdS X.K E c)

/-! ### plain forms -/
def plainE : Expr → Bool
  | .Starred .. => false
  | .Slice .. => false
  | .Set .. => false
  | _ => true
theorem plain_star {e : Expr} {es : List Expr} {env : PySem.Env} (h : plainE e = true) : starEach (e :: es) env = (false, eval e env) :: starEach es env := by
  cases e <;> first | rfl | cases h
theorem plain_ix {e : Expr} (h : plainE e = true) : PlainIx e := by
  intro o i
  cases e <;> first | rfl | cases h
theorem plain_set {e : Expr} (h : plainE e = true) {env : PySem.Env} (x : Value) : foldedSetIterable e env x = pure x := by
  cases e <;> first | rfl | cases h
theorem plain_asg {e : Expr} {es : List Expr} {env : PySem.Env} (h : plainE e = true) : assignEach (e :: es) env = (false, assign e env) :: assignEach es env := by
  cases e <;> first | rfl | cases h
theorem plains_pl {env : PySem.Env} {pos : Pos} : ∀ {es : List Expr}, es.all plainE = true → (backTo pos (starEach es env)).any (·.1) = false
  | [], _ => rfl
  | e :: es, h => by
    rw [List.all_cons, Bool.and_eq_true] at h
    rw [plain_star h.1]
    unfold backTo
    rw [List.map_cons, List.any_cons]
    have := plains_pl (env := env) (pos := pos) h.2
    unfold backTo at this
    rw [this]
    rfl
/-- no test of its own -/
def noTest : Expr → Bool
  | .UnaryOp .Not _ _ => false
  | .BoolOp .. => false
  | .IfExp .. => false
  | .Compare .. => false
  | _ => true
theorem noTest_is {e : Expr} {env : PySem.Env} (h : noTest e = true) (whole : Sem Value) : isTrue e env whole = (do let v ← whole; standAt e.pos; holding [v] (truthy v)) := by
  cases e with
  | UnaryOp op a p => cases op <;> first | rfl | cases h
  | _ => first | rfl | cases h
def noComp : Expr → Bool
  | .ListComp .. => false
  | .SetComp .. => false
  | .DictComp .. => false
  | _ => true
theorem noComp_sw {e : Expr} {env : PySem.Env} (h : noComp e = true) (t : Option Expr) (l : Nat) : swapsWith e t l env = pure false := by
  unfold swapsWith
  cases e <;> first | rfl | cases h

/-! ### slots -/
def visB (sc : Scope) (x : Str) : Bool := match sc.names.lookup x with
  | some .local => true
  | some .cell => true
  | some .free => true
  | _ => false
theorem visB_is {sc : Scope} {x : Str} (h : visB sc x = true) : Vis sc x := by
  unfold visB at h
  unfold Vis
  cases q : sc.names.lookup x with
  | none => rw [q] at h; cases h
  | some k => rw [q] at h; cases k <;> first | exact .inl rfl | exact .inr (.inl rfl) | exact .inr (.inr rfl) | cases h
def oddName (x : Str) : Bool := x == ("__debug__" : Str) || x == ("__classdict__" : Str)
def slotOf (g : Sg) (x : Str) : Option Nat := if (visB g.sc x && !oddName x) = true then g.N.idxOf? x else none
theorem slotOf_is {g : Sg} {x : Str} {i : Nat} (h : slotOf g x = some i) : g.N[i]? = some x ∧ Vis g.sc x ∧ (x == ("__debug__" : Str)) = false ∧ (x == ("__classdict__" : Str)) = false := by
  unfold slotOf at h
  split at h
  · rename_i hv
    rw [Bool.and_eq_true] at hv
    obtain ⟨h1, h2⟩ := hv
    have h2 : oddName x = false := by simpa using h2
    unfold oddName at h2
    rw [Bool.or_eq_false_iff] at h2
    refine ⟨?_, visB_is h1, h2.1, h2.2⟩
    rw [List.idxOf?, List.findIdx?_eq_some_iff_getElem] at h
    obtain ⟨hi, hx, _⟩ := h
    rw [List.getElem?_eq_getElem hi]
    exact congrArg some (by simpa using hx)
  · cases h
def globB (g : Sg) (x : Str) : Bool := (match g.sc.names.lookup x with | some .globalImplicit => true | _ => false) && !oddName x
theorem globB_is {X : Cx} {g : Sg} {E : EX} (ok : SgOk X g E) {x : Str} (h : globB g x = true) : Gl X x ∧ (x == ("__debug__" : Str)) = false := by
  unfold globB at h
  rw [Bool.and_eq_true] at h
  obtain ⟨h1, h2⟩ := h
  have h2 : oddName x = false := by simpa using h2
  unfold oddName at h2
  rw [Bool.or_eq_false_iff] at h2
  refine ⟨?_, h2.1⟩
  show X.env.scope.names.lookup x = some .globalImplicit
  rw [ok.sc]
  split at h1
  · assumption
  · cases h1
def bOf (r : Rec) (g : Sg) : Expr → Option CB
  | .Name x p => match slotOf g x with
    | some i => some (bVar i)
    | none => (r.v g (.Name x p)).map frz
  | e => (r.v g e).map frz
def fOf (r : Rec) (g : Sg) (e : Expr) : Option CB := (r.v g e).map frz
section
variable {r : Rec} {X : Cx} {g : Sg} {E : EX} {e : Expr}
theorem map_some {α β : Type} {o : Option α} {f : α → β} {b : β} (h : o.map f = some b) : ∃ a, o = some a ∧ f a = b := by
  cases o with
  | none => cases h
  | some a => exact ⟨a, rfl, Option.some.inj h⟩
theorem bind_some {α β : Type} {o : Option α} {f : α → Option β} {b : β} (h : (o >>= f) = some b) : ∃ a, o = some a ∧ f a = some b := by
  cases o with
  | none => cases h
  | some a => exact ⟨a, rfl, h⟩
theorem fOf_ok (R : RecOk r) {E : EX} (ok : SgOk X g E) {c : CB} (h : fOf r g e = some c) : PE X e (rdF X.K E c) := by
  obtain ⟨a, h1, rfl⟩ := map_some h
  exact PE.toF (R.v ok h1)
theorem bOf_ok (R : RecOk r) {E : EX} (ok : SgOk X g E) {c : CB} (h : bOf r g e = some c) : PE X e (rdB X.K E c) := by
  have gen : ∀ {e}, (r.v g e).map frz = some c → PE X e (rdB X.K E c) := fun h => by
    obtain ⟨a, h1, rfl⟩ := map_some h
    exact PE.toB (R.v ok h1)
  unfold bOf at h
  split at h
  · split at h
    · rename_i i hi
      cases h
      obtain ⟨h1, h2, h3, h4⟩ := slotOf_is hi
      exact re_bvar (by rw [ok.N]; exact h1) (by rw [ok.sc]; exact h2) h3 h4
    · exact gen h
  · exact gen h
end
/-! ### lists -/
def lOf (r : Rec) (g : Sg) : List Expr → Option CL
  | [] => some cNil
  | e :: es => if plainE e = true then match fOf r g e, lOf r g es with
    | some a, some l => some (cCons a l)
    | _, _ => none else none
def mOf (r : Rec) (g : Sg) : List Expr → Option CL
  | [] => some cNil
  | e :: es => if plainE e = true then match bOf r g e, mOf r g es with
    | some a, some l => some (cCons a l)
    | _, _ => none else none
def kOf (r : Rec) (g : Sg) : List Keyword → Option CL
  | [] => some cNil
  | ⟨_, e, _⟩ :: es => match fOf r g e, kOf r g es with
    | some a, some l => some (cCons a l)
    | _, _ => none
section
variable {r : Rec} {X : Cx} {g : Sg} {E : EX}
theorem lOf_ok (R : RecOk r) {E : EX} (ok : SgOk X g E) : ∀ {es : List Expr} {c : CL}, lOf r g es = some c → PA X es (rdL X.K E es.length c) ∧ es.all plainE = true
  | [], c, h => by simp only [lOf, Option.some.injEq] at h; subst h; exact ⟨rl_nil, rfl⟩
  | e :: es, c, h => by
    simp only [lOf] at h
    split at h
    · rename_i hp
      split at h
      · rename_i a l ha hl
        cases h
        obtain ⟨h1, h2⟩ := lOf_ok R ok hl
        exact ⟨rl_cons (fOf_ok R ok ha) h1 (plain_star hp), by rw [List.all_cons, hp, h2]; rfl⟩
      · cases h
    · cases h
theorem mOf_ok (R : RecOk r) {E : EX} (ok : SgOk X g E) : ∀ {es : List Expr} {c : CL}, mOf r g es = some c → PA X es (rdM X.K E c) ∧ es.all plainE = true
  | [], c, h => by simp only [mOf, Option.some.injEq] at h; subst h; exact ⟨rm_nil, rfl⟩
  | e :: es, c, h => by
    simp only [mOf] at h
    split at h
    · rename_i hp
      split at h
      · rename_i a l ha hl
        cases h
        obtain ⟨h1, h2⟩ := mOf_ok R ok hl
        exact ⟨rm_cons (bOf_ok R ok ha) h1 (plain_star hp), by rw [List.all_cons, hp, h2]; rfl⟩
      · cases h
    · cases h
theorem kOf_ok (R : RecOk r) {E : EX} (ok : SgOk X g E) : ∀ {es : List Keyword} {c : CL}, kOf r g es = some c → PK X es (rdL X.K E es.length c)
  | [], c, h => by simp only [kOf, Option.some.injEq] at h; subst h; exact rk_nil
  | ⟨n, e, p⟩ :: es, c, h => by
    simp only [kOf] at h
    split at h
    · rename_i a l ha hl
      cases h
      exact rk_cons (fOf_ok R ok ha) (kOf_ok R ok hl)
    · cases h
end
/-! ### targets -/
def gOf (g : Sg) : Nat → Expr → Option (List Nat × CG)
  | 0, _ => none
  | n + 1, e => match e with
   | .Name x _ => if x ∈ g.st then match slotOf g x with
    | some i => some ([i], gNm i)
    | none => none else none
   | .Tuple es _ _ => if es.all plainE = true then match (es.foldr (fun e acc => match gOf g n e, acc with
      | some (s, c), some (s2, c2) => some (s ++ s2, gsCons c c2)
      | _, _ => none) (some ([], gsNil)) : Option (List Nat × (List D → Env → M Env))) with
    | some (s, c) => some (s, gTp es.length c)
    | none => none else none
   | _ => none
section
variable {X : Cx} {g : Sg} {E : EX}
theorem plains_find {env : PySem.Env} : ∀ {es : List Expr}, es.all plainE = true → (assignEach es env).findIdx? (·.1) = none ∧ (assignEach es env).length = es.length
  | [], _ => ⟨rfl, rfl⟩
  | e :: es, h => by
    rw [List.all_cons, Bool.and_eq_true] at h
    rw [plain_asg h.1, List.findIdx?_cons]
    obtain ⟨h1, h2⟩ := plains_find (env := env) h.2
    rw [h1]
    exact ⟨rfl, by rw [List.length_cons, List.length_cons, h2]⟩
theorem gOf_ok {E : EX} (ok : SgOk X g E) : ∀ {n : Nat} {e : Expr} {p : List Nat × CG}, gOf g n e = some p → PG X e (rdG X.K E p.1 p.2)
  | 0, _, _, h => by simp [gOf] at h
  | n + 1, e, p, h => by
    unfold gOf at h
    split at h
    · split at h
      · rename_i hs
        split at h
        · rename_i i hi
          cases h
          obtain ⟨h1, h2, h3, h4⟩ := slotOf_is hi
          obtain ⟨s1, s2⟩ := ok.st _ hs
          exact rg_name (by rw [ok.N]; exact ok.nd) (by rw [ok.N]; exact h1) (by rw [ok.sc]; exact s1) (by rw [ok.sc]; exact s2)
        · cases h
      · cases h
    · rename_i es k tp
      split at h
      · rename_i hp
        split at h
        · rename_i s c hf
          cases h
          have main : ∀ (es : List Expr) (s : List Nat) (c : List D → Env → M Env), es.all plainE = true → (es.foldr (fun e acc => match gOf g n e, acc with
              | some (s, c), some (s2, c2) => some (s ++ s2, gsCons c c2)
              | _, _ => none) (some ([], gsNil)) : Option (List Nat × (List D → Env → M Env))) = some (s, c) → PGs X es (rdGs X.K E s c) := by
            intro es
            induction es with
            | nil => intro s c _ h; cases h; exact rgs_nil
            | cons e es ih =>
              intro s c hp h
              rw [List.foldr_cons] at h
              rw [List.all_cons, Bool.and_eq_true] at hp
              split at h
              · rename_i s1 c1 s2 c2 h1 h2
                cases h
                exact rgs_cons (gOf_ok (p := (s1, c1)) ok h1) (ih _ _ hp.2 h2) (by rw [plain_asg hp.1]; rfl)
              · cases h
          obtain ⟨q1, q2⟩ := plains_find (env := X.env) hp
          exact rg_tup ok.calm (main es s c hp hf) q2 q1
        · cases h
      · cases h
    · cases h
end
end DL
namespace DL
open PySem L2

/-! ### rules for expressions -/
abbrev VR := Rec → Sg → Expr → Option CV
def VrOk (f : VR) : Prop := ∀ {r : Rec}, RecOk r → ∀ {X : Cx} {g : Sg} {E : EX} {e : Expr} {c : CV}, SgOk X g E → f r g e = some c → PE X e (rdV X.K E c)

def vName : VR := fun _ g e => match e with
  | .Name x _ => match slotOf g x with
    | some i => if i ∈ g.own then none else some (cVar i)
    | none => if globB g x = true then match g.gl.lookup x with
      | some (.cv d) => some (cC d)
      | _ => none else none
  | _ => none
theorem vName_ok : VrOk vName := by
  intro r R X g E e c ok h
  unfold vName at h
  split at h
  · split at h
    · rename_i i hi
      split at h
      · cases h
      cases h
      obtain ⟨h1, h2, h3, h4⟩ := slotOf_is hi
      exact re_var (by rw [ok.N]; exact h1) (by rw [ok.sc]; exact h2) h3 h4
    · split at h
      · rename_i hg
        split at h
        · rename_i d hd
          cases h
          obtain ⟨v, u, h1, h2, h3⟩ := ok.gl _ _ hd
          obtain ⟨q1, q2⟩ := globB_is ok hg
          exact (pe_glob q1 h1 h2 q2).imp fun σ H Q' ⟨F, ρ, Q, re, h, k⟩ => k v H F (d, false) re.gr (Val.of (h3 F)) h
        · cases h
      · cases h
  · cases h
def vConst : VR := fun _ _ e => match e with
  | .Constant (.int i) _ _ => some (cC (.int i))
  | .Constant (.bool b) _ _ => some (cC (.bl b))
  | .Constant .none _ _ => some (cC .non)
  | .Constant (.str x) _ _ => some (cC (.str x))
  | _ => none
theorem vConst_ok : VrOk vConst := by
  intro r R X g E e c ok h
  unfold vConst at h
  split at h
  · cases h; exact re_const pe_int fun F => .int _
  · cases h; exact re_const pe_bl fun F => .bl _
  · cases h; exact re_const pe_non fun F => .non
  · cases h; exact re_const pe_str fun F => .str _
  · cases h
def vBin : VR := fun r g e => match e with
  | .BinOp a op b _ => match bOf r g a, bOf r g b with
    | some x, some y => some (cBin op x y)
    | _, _ => none
  | .UnaryOp .USub a _ => (bOf r g a).map cNeg
  | .UnaryOp .Not a _ => (bOf r g a).map cNot
  | _ => none
theorem vBin_ok : VrOk vBin := by
  intro r R X g E e c ok h
  unfold vBin at h
  split at h
  · split at h
    · cases h; exact re_bin (bOf_ok R ok ‹_›) (bOf_ok R ok ‹_›)
    · cases h
  · obtain ⟨a, h1, rfl⟩ := map_some h
    exact re_neg (bOf_ok R ok h1)
  · obtain ⟨a, h1, rfl⟩ := map_some h
    exact re_not (bOf_ok R ok h1)
  · cases h
/-- and, or: from the left -/
def boolV (r : Rec) (g : Sg) (f : CV → CV → CV) : List Expr → Option CV
  | [] => none
  | [a] => r.v g a
  | a :: b :: es => match r.v g a, boolV r g f (b :: es) with
    | some x, some y => some (f x y)
    | _, _ => none
def vBool : VR := fun r g e => match e with
  | .BoolOp .And es _ => boolV r g cAnd es
  | .BoolOp .Or es _ => boolV r g cOr es
  | .IfExp t a b _ => match r.t g t, r.v g a, r.v g b with
    | some t, some x, some y => some (cIf t x y)
    | _, _, _ => none
  | _ => none
theorem boolV_and {r : Rec} (R : RecOk r) {X : Cx} {g : Sg} {E : EX} {pos : Pos} (ok : SgOk X g E) : ∀ {es : List Expr} {c : CV}, boolV r g cAnd es = some c → PE X (.BoolOp .And es pos) (rdV X.K E c)
  | [], _, h => by cases h
  | [a], _, h => pe_one (R.v ok h)
  | a :: b :: es, _, h => by
    unfold boolV at h
    split at h
    · cases h; exact re_and (R.v ok ‹_›) (boolV_and R ok ‹_›)
    · cases h
theorem boolV_or {r : Rec} (R : RecOk r) {X : Cx} {g : Sg} {E : EX} {pos : Pos} (ok : SgOk X g E) : ∀ {es : List Expr} {c : CV}, boolV r g cOr es = some c → PE X (.BoolOp .Or es pos) (rdV X.K E c)
  | [], _, h => by cases h
  | [a], _, h => pe_one (R.v ok h)
  | a :: b :: es, _, h => by
    unfold boolV at h
    split at h
    · cases h; exact re_or (R.v ok ‹_›) (boolV_or R ok ‹_›)
    · cases h
theorem vBool_ok : VrOk vBool := by
  intro r R X g E e c ok h
  unfold vBool at h
  split at h
  · exact boolV_and R ok h
  · exact boolV_or R ok h
  · split at h
    · cases h; exact re_if (R.t ok ‹_›) (R.v ok ‹_›) (R.v ok ‹_›)
    · cases h
  · cases h
/-- a comparison -/
def cmpOf (r : Rec) (g : Sg) (e : Expr) : Option CT := match e with
  | .Compare a [op] [b] _ => if behindInMarks op b = false then match bOf r g a, bOf r g b with
    | some x, some y => some (tCm op x y)
    | _, _ => none else none
  | .Compare a [op, op'] [b, c] _ => if lastMarks [op, op'] [b, c] = false then match bOf r g a, bOf r g b, bOf r g c with
    | some x, some y, some z => some (tCh op op' x y z)
    | _, _, _ => none else none
  | _ => none
def vCmp : VR := fun r g e => (cmpOf r g e).map vT
section
variable {r : Rec} (R : RecOk r) {X : Cx} {g : Sg} {E : EX} {e : Expr} {c : CT} (ok : SgOk X g E)
include R ok
theorem cmpOf_ok (h : cmpOf r g e = some c) : PE X e (rdV X.K E (vT c)) ∧ PT X e (rdT X.K E c) := by
  have hu : X.A.units + 65 < cLine := Nat.lt_of_le_of_lt (Nat.add_le_add_left (by decide) _) ok.un
  unfold cmpOf at h
  split at h
  · split at h
    · rename_i hm
      split at h
      · rename_i ha hb
        cases h
        exact ⟨re_cm hu (bOf_ok R ok ha) (bOf_ok R ok hb) hm, rt_cm hu (bOf_ok R ok ha) (bOf_ok R ok hb) hm⟩
      · cases h
    · cases h
  · split at h
    · rename_i hm
      split at h
      · rename_i ha hb hc
        cases h
        exact ⟨re_ch hu (bOf_ok R ok ha) (bOf_ok R ok hb) (bOf_ok R ok hc) hm, rt_ch hu (bOf_ok R ok ha) (bOf_ok R ok hb) (bOf_ok R ok hc) hm⟩
      · cases h
    · cases h
  · cases h
end
theorem vCmp_ok : VrOk vCmp := by
  intro r R X g E e c ok h
  obtain ⟨t, h1, rfl⟩ := map_some h
  exact (cmpOf_ok R ok h1).1
def oOf (r : Rec) (g : Sg) : Option Expr → Option CO
  | none => some oNo
  | some e => (bOf r g e).map oIs
theorem oOf_ok {r : Rec} (R : RecOk r) {X : Cx} {g : Sg} {E : EX} (ok : SgOk X g E) {e : Option Expr} {c : CO} (h : oOf r g e = some c) : PO X e (rdO X.K E c) := by
  unfold oOf at h
  split at h
  · cases h; exact ro_no
  · obtain ⟨x, h1, rfl⟩ := map_some h
    exact ro_is (bOf_ok R ok h1)
def vSeq : VR := fun r g e => match e with
  | .Tuple es _ _ => (lOf r g es).map cTup
  | .List es _ => (lOf r g es).map cLst
  | .Subscript a (.Slice lo hi none _) _ => match bOf r g a, oOf r g lo, oOf r g hi with
    | some x, some l, some u => some (cSl x l u)
    | _, _, _ => none
  | .Subscript a b _ => if plainE b = true then match bOf r g a, bOf r g b with
    | some x, some y => some (cIx x y)
    | _, _ => none else none
  | _ => none
theorem vSeq_ok : VrOk vSeq := by
  intro r R X g E e c ok h
  unfold vSeq at h
  split at h
  · obtain ⟨x, h1, rfl⟩ := map_some h
    exact re_tup (lOf_ok R ok h1).1
  · obtain ⟨x, h1, rfl⟩ := map_some h
    exact re_lst (lOf_ok R ok h1).1
  · split at h
    · cases h; exact re_sl (bOf_ok R ok ‹_›) (oOf_ok R ok ‹_›) (oOf_ok R ok ‹_›)
    · cases h
  · split at h
    · rename_i hp
      split at h
      · cases h; exact re_ix (bOf_ok R ok ‹_›) (bOf_ok R ok ‹_›) (plain_ix hp)
      · cases h
    · cases h
  · cases h
def vCall : VR := fun r g e => match e with
  | .Call (.Name x _) es kws _ => if globB g x = true then match g.gl.lookup x with
    | some (.fn n m kw) => match kws with
      | [] => (lOf r g es).map (cCall n m)
      | kws => match kw.find? (fun z => decide (z.1 = es.length ∧ kws.map (·.arg) = z.2.1.map some)), lOf r g es, kOf r g kws with
        | some z, some l, some k => some (cCallK n z.2.2 m l k)
        | _, _, _ => none
    | some (.fo n m kw) => match kws with
      | [] => (lOf r g es).map (cCallF true n m)
      | kws => match kw.find? (fun z => decide (z.1 = es.length ∧ kws.map (·.arg) = z.2.1.map some)), lOf r g es, kOf r g kws with
        | some z, some l, some k => some (cCallKF true n z.2.2 m l k)
        | _, _, _ => none
    | some (.bi _ m) => match es, kws with
      | e :: es, [] => (mOf r g (e :: es)).map (cB m)
      | _, _ => none
    | some (.ty _ m) => match es, kws with
      | e :: es, [] => (mOf r g (e :: es)).map (cB m)
      | _, _ => none
    | _ => none else none
  | _ => none
theorem vCall_ok : VrOk vCall := by
  intro r R X g E e c ok h
  unfold vCall at h
  split at h
  · rename_i x p es kws pos
    split at h
    · rename_i hg
      obtain ⟨q1, q2⟩ := globB_is ok hg
      split at h
      · rename_i n m kw hl
        obtain ⟨k, f, fd, ps, F, hr, hm, hk, hb, hn, hkw⟩ := ok.gl _ _ hl
        subst hn
        split at h
        · obtain ⟨l, h1, rfl⟩ := map_some h
          obtain ⟨h2, h3⟩ := lOf_ok (E := E) R ok h1
          cases es with
          | nil =>
            simp only [lOf, Option.some.injEq] at h1
            subst h1
            exact re_call0 F hr ok.gd q1 hm hk hb ok.tk q2
          | cons e es =>
            rw [List.all_cons, Bool.and_eq_true] at h3
            exact re_call F hr ok.gd q1 hm hk hb ok.tk h2 q2 (plain_star h3.1) (plains_pl h3.2)
        · split at h
          · rename_i z l kl hz h1 hk1
            cases h
            have hz1 := List.mem_of_find?_eq_some hz
            have hz2 := List.find?_some hz
            have hz2 := of_decide_eq_true hz2
            obtain ⟨h2, h3⟩ := lOf_ok (E := E) R ok h1
            have kk := kOf_ok (E := E) R ok hk1
            have hlen : kws.length = z.2.1.length := by
              have := congrArg List.length hz2.2
              simpa using this
            rw [hlen] at kk
            have hKw := hkw z hz1
            cases es with
            | nil =>
              simp only [lOf, Option.some.injEq] at h1
              subst h1
              have h0 : z.1 = 0 := hz2.1
              rw [h0] at hKw
              exact re_callK0 F hr ok.gd q1 hm hk hKw ok.tk kk hz2.2 q2
            | cons e es =>
              have hpl := plains_pl (env := X.env) (pos := pos) h3
              rw [List.all_cons, Bool.and_eq_true] at h3
              rw [← hz2.1] at h2
              exact re_callK F hr ok.gd q1 hm hk hKw ok.tk h2 kk (plain_star h3.1) hpl hz2.2 q2
          · cases h
      · rename_i n m kw hl
        obtain ⟨k, f, fd, ps, F, hr, hm, hk, hb, hn, hkw⟩ := ok.gl _ _ hl
        subst hn
        split at h
        · obtain ⟨l, h1, rfl⟩ := map_some h
          obtain ⟨h2, h3⟩ := lOf_ok (E := E) R ok h1
          cases es with
          | nil =>
            simp only [lOf, Option.some.injEq] at h1
            subst h1
            exact re_call0 F hr ok.gd q1 hm hk hb ok.tk q2
          | cons e es =>
            rw [List.all_cons, Bool.and_eq_true] at h3
            exact re_call F hr ok.gd q1 hm hk hb ok.tk h2 q2 (plain_star h3.1) (plains_pl h3.2)
        · split at h
          · rename_i z l kl hz h1 hk1
            cases h
            have hz1 := List.mem_of_find?_eq_some hz
            have hz2 := List.find?_some hz
            have hz2 := of_decide_eq_true hz2
            obtain ⟨h2, h3⟩ := lOf_ok (E := E) R ok h1
            have kk := kOf_ok (E := E) R ok hk1
            have hlen : kws.length = z.2.1.length := by
              have := congrArg List.length hz2.2
              simpa using this
            rw [hlen] at kk
            have hKw := hkw z hz1
            cases es with
            | nil =>
              simp only [lOf, Option.some.injEq] at h1
              subst h1
              have h0 : z.1 = 0 := hz2.1
              rw [h0] at hKw
              exact re_callK0 F hr ok.gd q1 hm hk hKw ok.tk kk hz2.2 q2
            | cons e es =>
              have hpl := plains_pl (env := X.env) (pos := pos) h3
              rw [List.all_cons, Bool.and_eq_true] at h3
              rw [← hz2.1] at h2
              exact re_callK F hr ok.gd q1 hm hk hKw ok.tk h2 kk (plain_star h3.1) hpl hz2.2 q2
          · cases h
      · rename_i id m hl
        obtain ⟨hm, hv, hn, hc⟩ := ok.gl _ _ hl
        split at h
        · obtain ⟨l, h1, rfl⟩ := map_some h
          obtain ⟨h2, h3⟩ := mOf_ok (E := E) R ok h1
          rw [List.all_cons, Bool.and_eq_true] at h3
          exact re_callB (hc X ok.calm ok.gd ok.un) q1 hm hv h2 hn q2 (plain_star h3.1) (plains_pl h3.2)
        · cases h
      · rename_i id m hl
        obtain ⟨hm, hv, hn, hc⟩ := ok.gl _ _ hl
        split at h
        · obtain ⟨l, h1, rfl⟩ := map_some h
          obtain ⟨h2, h3⟩ := mOf_ok (E := E) R ok h1
          rw [List.all_cons, Bool.and_eq_true] at h3
          exact re_callT (hc X ok.calm ok.gd ok.un) q1 hm hv h2 hn q2 (plain_star h3.1) (plains_pl h3.2)
        · cases h
      · cases h
    · cases h
  · cases h

/-! ### tests -/
def boolT (r : Rec) (g : Sg) (f : CT → CT → CT) : List Expr → Option CT
  | [] => none
  | [a] => r.t g a
  | a :: b :: es => match r.t g a, boolT r g f (b :: es) with
    | some x, some y => some (f x y)
    | _, _ => none
def tOf (r : Rec) (g : Sg) (e : Expr) : Option CT := match e with
  | .Compare a ops bs p => cmpOf r g (.Compare a ops bs p)
  | .BoolOp .And es _ => boolT r g tAn es
  | .BoolOp .Or es _ => boolT r g tOr' es
  | .UnaryOp .Not a _ => (r.t g a).map tNo
  | e => if noTest e = true then (bOf r g e).map tTru else none
section
variable {r : Rec} (R : RecOk r) {X : Cx} {g : Sg} {E : EX} {pos : Pos} (ok : SgOk X g E)
include R ok
theorem boolT_and : ∀ {es : List Expr} {c : CT}, boolT r g tAn es = some c → PW X (.BoolOp .And es pos) (rdT X.K E c)
  | [], _, h => by cases h
  | [a], _, h => pw_and1 (R.t ok h)
  | a :: b :: es, _, h => by
    unfold boolT at h
    split at h
    · cases h; exact rw_and (R.t ok ‹_›) (boolT_and ‹_›)
    · cases h
theorem boolT_or : ∀ {es : List Expr} {c : CT}, boolT r g tOr' es = some c → PW X (.BoolOp .Or es pos) (rdT X.K E c)
  | [], _, h => by cases h
  | [a], _, h => pw_or1 (R.t ok h)
  | a :: b :: es, _, h => by
    unfold boolT at h
    split at h
    · cases h; exact rw_or (R.t ok ‹_›) (boolT_or ‹_›)
    · cases h
theorem tOf_ok {e : Expr} {c : CT} (h : tOf r g e = some c) : PT X e (rdT X.K E c) := by
  unfold tOf at h
  split at h
  · exact (cmpOf_ok R ok h).2
  · exact (boolT_and R ok h).pt
  · exact (boolT_or R ok h).pt
  · obtain ⟨t, h1, rfl⟩ := map_some h
    exact rt_not (R.t ok h1)
  · split at h
    · rename_i hn
      obtain ⟨t, h1, rfl⟩ := map_some h
      exact rt_tru (bOf_ok R ok h1) (noTest_is hn)
    · cases h
end
end DL
namespace DL
open PySem L2

/-! ### rules for what is walked -/
abbrev IR := Rec → Sg → Expr → Expr → Option CI
def IrOk (f : IR) : Prop := ∀ {r : Rec}, RecOk r → ∀ {X : Cx} {g : Sg} {E : EX} {tg e : Expr} {c : CI}, SgOk X g E → f r g tg e = some c → PI X tg e (rdI X.K E c)
def spB (g : Sg) (x y : Str) : Bool := decide (x = y) && globB g x && (match g.gl.lookup x with | some .sp => true | _ => false)
theorem spB_is {X : Cx} {g : Sg} {E : EX} (ok : SgOk X g E) {x y : Str} (h : spB g x y = true) : x = y ∧ Gl X y ∧ X.mg y = none := by
  unfold spB at h
  rw [Bool.and_eq_true, Bool.and_eq_true] at h
  obtain ⟨⟨h1, h2⟩, h3⟩ := h
  have h1 := of_decide_eq_true h1
  subst h1
  refine ⟨rfl, (globB_is ok h2).1, ?_⟩
  split at h3
  · rename_i hl; exact ok.gl _ _ hl
  · cases h3
def iRange : IR := fun r g _ e => match e with
  | .Call (.Name x _) es [] _ => if (spB g x "range" && decide (es.length = 1 ∨ es.length = 2 ∨ es.length = 3)) = true then (lOf r g es).map iRng else none
  | _ => none
theorem iRange_ok : IrOk iRange := by
  intro r R X g E tg e c ok h
  unfold iRange at h
  split at h
  · rename_i x p es pos
    split at h
    · rename_i hs
      rw [Bool.and_eq_true] at hs
      obtain ⟨rfl, q1, q2⟩ := spB_is ok hs.1
      have hl := of_decide_eq_true hs.2
      obtain ⟨l, h1, rfl⟩ := map_some h
      obtain ⟨h2, h3⟩ := lOf_ok (E := E) R ok h1
      rcases hl with hl | hl | hl
      · obtain ⟨a, rfl⟩ := len1 hl
        rw [List.all_cons, Bool.and_eq_true] at h3
        exact ri_range1 q1 q2 h2 (plain_star h3.1)
      · obtain ⟨a, b, rfl⟩ := len2 hl
        rw [List.all_cons, List.all_cons, Bool.and_eq_true, Bool.and_eq_true] at h3
        exact ri_range2 q1 q2 h2 (by rw [plain_star h3.1, plain_star h3.2.1]; rfl) (plain_star h3.2.1)
      · obtain ⟨a, b, d, rfl⟩ := len3 hl
        rw [List.all_cons, Bool.and_eq_true] at h3
        exact ri_range3 q1 q2 h2 (plain_star h3.1) (plains_pl h3.2)
    · cases h
  · cases h
def iPlain : IR := fun r g _ e => (fOf r g e).map iSeq
theorem iPlain_ok : IrOk iPlain := by
  intro r R X g E tg e c ok h
  obtain ⟨x, h1, rfl⟩ := map_some h
  exact ri_seq (fOf_ok R ok h1)

/-! ### list comprehensions -/
def ownOf (g : Sg) (scope : Scope) : List (Str × Nat) := scope.names.filterMap fun y => match y.2 with
  | .local => (g.N.idxOf? y.1).map fun i => (y.1, i)
  | .cell => (g.N.idxOf? y.1).map fun i => (y.1, i)
  | _ => none
def blkSg (g : Sg) (scope : Scope) : Sg := { g with sc := relS scope g.sc, st := (scope.names.filter fun y => match y.2 with | .local => true | .cell => true | _ => false).map (·.1), blk := true }
def stB (sc' : Scope) (scope : Scope) (x : Str) : Bool := match sc'.names.lookup x with
  | some .local => true
  | some .cell => (match scope.names.lookup x with | some .cell => true | _ => false)
  | _ => false
theorem stB_is {sc' scope : Scope} {x : Str} (h : stB sc' scope x = true) : L2.Loc sc' x ∧ ((scope.names.lookup x == some .cell) = true ∨ sc'.names.lookup x = some .local) := by
  unfold stB at h
  unfold L2.Loc
  split at h
  · rename_i q; exact ⟨.inl q, .inr q⟩
  · rename_i q
    refine ⟨.inr q, .inl ?_⟩
    split at h
    · rename_i z; rw [z]; rfl
    · cases h
  · cases h
def testsOf (r : Rec) (g : Sg) : List Expr → Option CT
  | [] => some tYesD
  | [c] => r.t g c
  | _ => none
structure LcD where
  own : List (Str × Nat)
  sl : List Nat
  ci : CI
  gg : CG
  t : CT
  xe : CB
def lcOf (r : Rec) (g : Sg) (elt tg iter : Expr) (ifs : List Expr) (scope : Scope) : Option LcD :=
  if (blkC g.N g.sc scope (ownOf g scope) && (blkSg g scope).st.all (stB (relS scope g.sc) scope) && plainE iter && decide ((blkSg g scope).sc.kind = .function)) = true then
    match r.i g tg iter, gOf (blkSg g scope) 6 tg, testsOf r (blkSg g scope) ifs, fOf r (blkSg g scope) elt with
    | some ci, some (sl, gg), some t, some xe => if (sl.all fun i => decide (i ∈ (ownOf g scope).map (·.2))) = true then some ⟨ownOf g scope, sl, ci, gg, t, xe⟩ else none
    | _, _, _, _ => none
  else none
def LcD.c (d : LcD) : CV := cLc (d.own.map (·.2)) d.ci d.gg d.t d.xe
structure LcOk (X : Cx) (E : EX) (elt tg iter : Expr) (ifs : List Expr) (scope : Scope) (d : LcD) : Prop where
  hsl : ∀ i ∈ d.sl, i ∈ d.own.map (·.2)
  hi : PI X tg iter (rdI X.K E d.ci)
  ok : BlkOk X.N X.env.scope scope d.own
  hg : ∀ (s : Shared) (H : Hp) (C : Addr) (cl : List (Str × Addr)) (fp : List Addr), PG (X.blk s H scope (compEnvC scope cl C X.env) fp) tg (rdG X.K E.no d.sl d.gg)
  ht : ∀ (s : Shared) (H : Hp) (C : Addr) (cl : List (Str × Addr)) (fp : List Addr), PTs (X.blk s H scope (compEnvC scope cl C X.env) fp) ifs (rdT X.K E.no d.t)
  he : ∀ (s : Shared) (H : Hp) (C : Addr) (cl : List (Str × Addr)) (fp : List Addr), PE (X.blk s H scope (compEnvC scope cl C X.env) fp) elt (rdF X.K E.no d.xe)
  hs : ∀ x, foldedSetIterable iter X.env x = pure x
theorem blkSg_ok {X : Cx} {g : Sg} {E : EX} (ok : SgOk X g E) {scope : Scope} (h1 : (blkSg g scope).st.all (stB (relS scope g.sc) scope) = true) (h2 : (blkSg g scope).sc.kind = .function) (s : Shared) (H : Hp) (C : Addr) (cl : List (Str × Addr)) (fp : List Addr) :
    SgOk (X.blk s H scope (compEnvC scope cl C X.env) fp) (blkSg g scope) E.no where
  tk := takes_noE
  N := ok.N
  nd := ok.nd
  sc := by
    show relS scope X.env.scope = relS scope g.sc
    rw [ok.sc]
  kind := h2
  calm := ok.calm
  gd := ok.gd
  un := ok.un
  st := fun x hx => by
    have := List.all_eq_true.mp h1 x hx
    obtain ⟨a, b⟩ := stB_is this
    exact ⟨a, b⟩
  gl := ok.gl
  fr := fun h => by cases h
  ef := fun _ _ _ _ h => h.elim
theorem lcOf_ok {r : Rec} (R : RecOk r) {X : Cx} {g : Sg} {E : EX} (ok : SgOk X g E) {elt tg iter : Expr} {ifs : List Expr} {scope : Scope} {d : LcD} (h : lcOf r g elt tg iter ifs scope = some d) : LcOk X E elt tg iter ifs scope d := by
  unfold lcOf at h
  split at h
  · rename_i hb
    rw [Bool.and_eq_true, Bool.and_eq_true, Bool.and_eq_true] at hb
    obtain ⟨⟨⟨b1, b2⟩, b3⟩, b4⟩ := hb
    have b4 := of_decide_eq_true b4
    split at h
    · rename_i ci sl gg t xe h1 h2 h3 h4
      split at h
      · rename_i hs
        cases h
        have bk := blkSg_ok ok b2 b4
        refine ⟨fun i hi => of_decide_eq_true (List.all_eq_true.mp hs i hi), R.i ok h1, ?_, fun s H C cl fp => gOf_ok (p := (sl, gg)) (bk s H C cl fp) h2, fun s H C cl fp => ?_, fun s H C cl fp => fOf_ok R (bk s H C cl fp) h4, plain_set b3⟩
        · rw [ok.N, ok.sc]; exact blkOk_by b1
        · unfold testsOf at h3
          split at h3
          · cases h3; exact rts_nil
          · exact pts_one (R.t (bk s H C cl fp) h3)
          · cases h3
      · cases h
    · cases h
  · cases h
def vLc : VR := fun r g e => match e with
  | .ListComp elt [⟨tg, iter, ifs, 0⟩] scope _ => (lcOf r g elt tg iter ifs scope).map LcD.c
  | _ => none
theorem vLc_ok : VrOk vLc := by
  intro r R X g E e c ok h
  unfold vLc at h
  split at h
  · obtain ⟨d, h1, rfl⟩ := map_some h
    have L := lcOf_ok (E := E) R ok h1
    exact re_lc L.hsl ok.calm (by rw [ok.N]; exact ok.nd) L.hi L.ok L.hg L.ht L.he L.hs
  · cases h
/-- name = [..]: the list stored ahead of the block's end -/
def swB (g : Sg) (scope : Scope) (y : Str) (l1 l2 : Nat) : Bool := (match g.sc.names.lookup y with | some .local => true | _ => false) && (l1 == l2) && !(scope.names.any fun (n, k) => n == y && (k == .local || k == .cell))
theorem sw_lc {X : Cx} {g : Sg} {E : EX} (ok : SgOk X g E) {elt : Expr} {gs : List Comprehension} {scope : Scope} {pos py : Pos} {y : Str} {l : Nat} : swapsWith (.ListComp elt gs scope pos) (some (.Name y py)) l X.env = pure (swB g scope y py.line pos.line) := by
  have hk : X.env.scope.kind = .function := by rw [ok.sc]; exact ok.kind
  have hb : X.env.blockKind = .function := by unfold PySem.Env.blockKind; rw [hk]; rfl
  have e1 : (match g.sc.names.lookup y with | some .local => true | _ => false) = (X.env.kindOf y == some .local) := by
    show _ = (X.env.scope.names.lookup y == some .local)
    rw [ok.sc]
    cases g.sc.names.lookup y with
    | none => rfl
    | some k => cases k <;> rfl
  unfold swapsWith swB
  rw [e1]
  simp only [hb, Expr.pos]
  rfl

/-! ### rules for statements -/
theorem SgOk.up {X : Cx} {g : Sg} {E : EX} {F1 : Hp} (ok : SgOk X g E) (u : Upd E F1) : SgOk X g (E.up F1) := ⟨u.takes ok.tk, ok.N, ok.nd, ok.sc, ok.kind, ok.calm, ok.gd, ok.un, ok.st, ok.gl, ok.fr, ok.ef⟩
theorem SgOk.no {X : Cx} {g : Sg} {E : EX} (ok : SgOk X g E) : SgOk X g E.no := ⟨takes_noE, ok.N, ok.nd, ok.sc, ok.kind, ok.calm, ok.gd, ok.un, ok.st, ok.gl, ok.fr, fun _ _ _ _ h => h.elim⟩
abbrev SR := Rec → Sg → Stmt → Option CS
def SrOk (f : SR) : Prop := ∀ {r : Rec}, RecOk r → ∀ {X : Cx} {g : Sg} {E : EX} {st : Stmt} {c : CS}, SgOk X g E → PassesOwn (model X.prog X.w) X.A X.env X.xe → f r g st = some c → PS X st (rdS X.K E c)
def ssOf (r : Rec) (g : Sg) : List Stmt → Option CS
  | [] => some sNil
  | [s] => r.s g s
  | s :: s2 :: ss => match r.s g s, ssOf r g (s2 :: ss) with
    | some a, some b => some (sSeq a b)
    | _, _ => none
theorem ssOf_ok {r : Rec} (R : RecOk r) {X : Cx} {g : Sg} {E : EX} (ok : SgOk X g E) (hp : PassesOwn (model X.prog X.w) X.A X.env X.xe) : ∀ {ss : List Stmt} {c : CS}, ssOf r g ss = some c → PSs X ss (rdS X.K E c)
  | [], _, h => by cases h; exact rss_nil
  | [s], _, h => rss_one (R.s ok hp h)
  | s :: s2 :: ss, _, h => by
    unfold ssOf at h
    split at h
    · cases h; exact rss_cons (R.s ok hp ‹_›) (ssOf_ok R ok hp ‹_›)
    · cases h
/-- x.pop(), x.pop(e); or any -/
def uOfE (r : Rec) (g : Sg) (e : Expr) : Option CU := match e with
  | .Call (.Attribute (.Name x _) m ap) [] [] cp => if m = ("pop" : Str) ∧ (ap.endLine == cp.line) = true then (slotOf g x).map uPop else (fOf r g e).map uOf
  | .Call (.Attribute (.Name x _) m ap) [a] [] cp => if m = ("pop" : Str) ∧ (ap.endLine == cp.line) = true ∧ plainE a = true then match slotOf g x, fOf r g a with
    | some i, some c => some (uPopAt i c)
    | _, _ => none else (fOf r g e).map uOf
  | e => (fOf r g e).map uOf
theorem few1 {a : Expr} {X : Cx} {pos : Pos} (h : plainE a = true) : ((backTo pos (starEach [a] X.env)).all (fun x => !x.1) && (backToKw pos (keywordEach [] X.env)).all (fun x => x.1.isSome) && decide ([a].length + ([] : List Keyword).length + (if ([] : List Keyword).isEmpty then 0 else 1) < 30)) = true := by
  rw [plain_star h]
  rfl
theorem uOfE_ok {r : Rec} (R : RecOk r) {X : Cx} {g : Sg} {E : EX} (ok : SgOk X g E) {e : Expr} {c : CU} (h : uOfE r g e = some c) : PE X e (rdU X.K E c) := by
  have gen : ∀ {e : Expr}, (fOf r g e).map uOf = some c → PE X e (rdU X.K E c) := fun h => by
    obtain ⟨a, h1, rfl⟩ := map_some h
    exact ru_of (fOf_ok R ok h1)
  unfold uOfE at h
  split at h
  · split at h
    · rename_i hm
      obtain ⟨rfl, hl⟩ := hm
      obtain ⟨i, h1, rfl⟩ := map_some h
      obtain ⟨q1, q2, q3, q4⟩ := slotOf_is h1
      exact ru_pop (by rw [ok.N]; exact q1) (by rw [ok.sc]; exact q2) q3 q4 rfl hl
    · exact gen h
  · split at h
    · rename_i hm
      obtain ⟨rfl, hl, hp⟩ := hm
      split at h
      · rename_i i c h1 h2
        cases h
        obtain ⟨q1, q2, q3, q4⟩ := slotOf_is h1
        exact ru_popAt (by rw [ok.N]; exact q1) (by rw [ok.sc]; exact q2) q3 q4 (fOf_ok R ok h2) rfl (few1 hp) hl (plain_star hp) rfl
      · cases h
    · exact gen h
  · exact gen h
def isPop : Expr → Bool
  | .Call (.Attribute (.Name _ _) m _) _ [] _ => decide (m = ("pop" : Str))
  | _ => false
def sExpr : SR := fun r g st => match st with
  | .Pass _ => some sNil
  | .Expr (.Constant (.str _) _ _) _ => some sNil
  | .Expr e@(.Call (.Attribute (.Name x _) m ap) [a] [] cp) _ => if m = ("append" : Str) ∧ (ap.endLine == cp.line) = true ∧ plainE a = true then match slotOf g x, uOfE r g a with
    | some i, some u => some (sApp i u)
    | _, _ => none else (r.v g e).map sDrop
  | .Expr e _ => if noComp e = true then (r.v g e).map sDrop else none
  | _ => none
theorem sExpr_ok : SrOk sExpr := by
  intro r R X g E st c ok hp h
  unfold sExpr at h
  split at h
  · cases h; exact rs_pass
  · cases h
    exact PS.imp ps_doc fun Dn σ H ⟨F, ρ, W, re, h, l⟩ => l.nx σ H F ρ re h
  · split at h
    · rename_i hm
      obtain ⟨rfl, hl, hpl⟩ := hm
      split at h
      · rename_i i u h1 h2
        cases h
        obtain ⟨q1, q2, q3, q4⟩ := slotOf_is h1
        exact rs_app (by rw [ok.N]; exact q1) (by rw [ok.sc]; exact q2) q3 q4 (uOfE_ok R ok h2) rfl (few1 hpl) hl (plain_star hpl) rfl (noComp_sw rfl _ _)
      · cases h
    · obtain ⟨v, h1, rfl⟩ := map_some h
      exact rs_drop (R.v ok h1) (noComp_sw rfl _ _)
  · split at h
    · rename_i hn
      obtain ⟨v, h1, rfl⟩ := map_some h
      exact rs_drop (R.v ok h1) (noComp_sw hn _ _)
    · cases h
  · cases h
def sName : SR := fun r g st => match st with
  | .Assign [.Name y py] (.ListComp elt [⟨tg, iter, ifs, 0⟩] scope pos) _ => if y ∈ g.st then match slotOf g y, lcOf r g elt tg iter ifs scope with
    | some i, some d => some (sSet i (decide (i ∈ g.own)) d.c)
    | _, _ => none else none
  | .Assign [.Name y _] e _ => if y ∈ g.st ∧ noComp e = true then
      if isPop e = true then match slotOf g y, uOfE r g e with
        | some i, some u => some (sSetU i u)
        | _, _ => none
      else match slotOf g y, r.v g e with
        | some i, some v => some (sSet i (decide (i ∈ g.own)) v)
        | _, _ => none
    else none
  | _ => none
theorem sName_ok : SrOk sName := by
  intro r R X g E st c ok hp h
  have hN : X.N.Nodup := by rw [ok.N]; exact ok.nd
  unfold sName at h
  split at h
  · rename_i y py elt tg iter ifs scope pos spos
    split at h
    · rename_i hs
      split at h
      · rename_i i d h1 h2
        cases h
        obtain ⟨q1, q2, q3, q4⟩ := slotOf_is h1
        obtain ⟨s1, s2⟩ := ok.st _ hs
        have L := lcOf_ok (E := E) R ok h2
        have h1' : X.N[i]? = some y := by rw [ok.N]; exact q1
        have s1' : L2.Loc X.env.scope y := by rw [ok.sc]; exact s1
        have s2' : X.fn y = true ∨ X.env.scope.names.lookup y = some .local := by rw [ok.sc]; exact s2
        cases hsw : swB g scope y py.line pos.line with
        | false => exact rs_set _ hN h1' s1' s2' (re_lc L.hsl ok.calm hN L.hi L.ok L.hg L.ht L.he L.hs) (by rw [sw_lc ok, hsw])
        | true =>
          have hyl : X.env.scope.names.lookup y = some .local := by
            rw [ok.sc]
            unfold swB at hsw
            rw [Bool.and_eq_true, Bool.and_eq_true] at hsw
            have := hsw.1.1
            split at this
            · assumption
            · cases this
          exact PS.imp (ps_setLc ok.calm hN h1' hyl (by rw [sw_lc ok, hsw]) L.hi L.ok L.hg L.ht L.he L.hs) fun Dn σ H h => lc_imp L.hsl (set_imp h)
      · cases h
    · cases h
  · split at h
    · rename_i hs
      obtain ⟨s1, s2⟩ := ok.st _ hs.1
      split at h
      · split at h
        · rename_i h1 h2
          cases h
          obtain ⟨q1, q2, q3, q4⟩ := slotOf_is h1
          exact rs_setU hN (by rw [ok.N]; exact q1) (by rw [ok.sc]; exact s1) (by rw [ok.sc]; exact s2) (uOfE_ok R ok h2) (noComp_sw hs.2 _ _)
        · cases h
      · split at h
        · rename_i h1 h2
          cases h
          obtain ⟨q1, q2, q3, q4⟩ := slotOf_is h1
          exact rs_set _ hN (by rw [ok.N]; exact q1) (by rw [ok.sc]; exact s1) (by rw [ok.sc]; exact s2) (R.v ok h2) (noComp_sw hs.2 _ _)
        · cases h
    · cases h
  · cases h
def notTup : Expr → Bool
  | .Tuple .. => false
  | _ => true
theorem stores_no {e tg : Expr} {env : PySem.Env} (h : notTup e = true) : swappedStores [tg] e env = pure none := by
  unfold swappedStores
  cases e <;> first | (cases tg <;> rfl) | cases h
def sTup : SR := fun r g st => match st with
  | .Assign [.Tuple ts k p] e _ => if (notTup e && noComp e) = true then match gOf g 6 (.Tuple ts k p), fOf r g e with
    | some (_, gg), some x => some (sAsg gg x)
    | _, _ => none else none
  | _ => none
theorem sTup_ok : SrOk sTup := by
  intro r R X g E st c ok hp h
  unfold sTup at h
  split at h
  · split at h
    · rename_i hn
      rw [Bool.and_eq_true] at hn
      split at h
      · rename_i sl gg x h1 h2
        cases h
        exact rs_asg (fOf_ok R ok h2) (gOf_ok (p := (sl, gg)) ok h1) (by unfold swapsWithSole; exact noComp_sw hn.2 _ _) (stores_no hn.1) rfl
      · cases h
    · cases h
  · cases h
def sFlow : SR := fun r g st => match st with
  | .Return (some e) _ => (fOf r g e).map sRet
  | .Return none _ => some sRetN
  | .If t a b _ => match r.t g t, ssOf r g a, ssOf r g b with
    | some t, some a, some b => some (sIf t a b)
    | _, _, _ => none
  | .While t a [] _ => match r.t g t, ssOf r g a with
    | some t, some a => some (sWhile t a)
    | _, _ => none
  | .For tg it a [] _ => if plainE it = true then match r.i g tg it, gOf g 6 tg, ssOf r g a with
    | some ci, some (_, gg), some a => some (sFor ci gg a)
    | _, _, _ => none else none
  | .Break _ => some sBrk
  | .Continue _ => some sCnt
  | .Raise .. => some sNo
  | _ => none
theorem sFlow_ok : SrOk sFlow := by
  intro r R X g E st c ok hp h
  unfold sFlow at h
  split at h
  · obtain ⟨x, h1, rfl⟩ := map_some h
    exact rs_ret (fOf_ok R ok h1)
  · cases h; exact rs_retN
  · split at h
    · cases h; exact rs_if (R.t ok ‹_›) (ssOf_ok R ok hp ‹_›) (ssOf_ok R ok hp ‹_›)
    · cases h
  · split at h
    · cases h; exact rs_while hp (R.t ok ‹_›) (ssOf_ok R ok hp ‹_›)
    · cases h
  · split at h
    · rename_i hpl
      split at h
      · rename_i ci sl gg a h1 h2 h3
        cases h
        exact rs_for hp ok.calm (R.i ok h1) (gOf_ok (p := (sl, gg)) ok h2) (fun F1 u => ssOf_ok R (ok.up u) hp h3) (plain_set hpl)
      · cases h
    · cases h
  · cases h; exact rs_brk
  · cases h; exact rs_cnt
  · cases h; exact rs_no
  · cases h
theorem sub_asg {o i : Expr} {env : PySem.Env} {pos : Pos} {v : Value} (h : plainE i = true) : assign (.Subscript o i pos) env v = (do
      let ov ← holding [v] (eval o env)
      let iv ← holding [v, ov] (eval i env)
      standAt pos
      holding [v, ov, iv] (setItem ov iv v)
      release [v, ov, iv] []) := by
  cases i <;> first | rfl | cases h
def sSub : SR := fun r g st => match st with
  | .Assign [.Subscript (.Name x _) ix _] e _ => if (plainE ix && noComp e && notTup e) = true then match slotOf g x, fOf r g e, fOf r g ix with
    | some i, some c, some k => some (sPut i c k)
    | _, _, _ => none else none
  | _ => none
theorem sSub_ok : SrOk sSub := by
  intro r R X g E st c ok hp h
  unfold sSub at h
  split at h
  · split at h
    · rename_i hn
      rw [Bool.and_eq_true, Bool.and_eq_true] at hn
      split at h
      · rename_i i c k h1 h2 h3
        cases h
        obtain ⟨q1, q2, q3, q4⟩ := slotOf_is h1
        exact rs_put (by rw [ok.N]; exact q1) (by rw [ok.sc]; exact q2) q3 q4 (fOf_ok R ok h2) (fOf_ok R ok h3) (fun v => sub_asg hn.1.1) (by unfold swapsWithSole; exact noComp_sw hn.1.2 _ _) (stores_no hn.2) rfl
      · cases h
    · cases h
  · cases h
end DL
namespace DL
open PySem L2

/-! ### two names at once -/
def parB (g : Sg) (x y : Str) (l1 l2 lt : Nat) (a b : Expr) : Bool :=
  plainE a && plainE b && (match g.sc.names.lookup x with | some .local => true | _ => false) && (match g.sc.names.lookup y with | some .local => true | _ => false) && (l1 == l2) && !(x == y) &&
    !([a, b].all (foldedForSure 8)) && !([a, b].all (constantsAlone 8))
def isStar : Expr → Bool
  | .Starred .. => true
  | _ => false
theorem star1 {a : Expr} (h : plainE a = true) : isStar a = false := by
  cases a <;> first | rfl | cases h
theorem par_sw {X : Cx} {g : Sg} {E : EX} (ok : SgOk X g E) {x y : Str} {px py pt : Pos} {kt : Nat} {k2 : Nat} {pt2 : Pos} {a b : Expr} (h : parB g x y px.line py.line 0 a b = true) :
    swappedStores [.Tuple [.Name x px, .Name y py] kt pt] (.Tuple [a, b] k2 pt2) X.env = pure (some [x, y]) := by
  unfold parB at h
  simp only [Bool.and_eq_true, Bool.not_eq_true'] at h
  obtain ⟨⟨⟨⟨⟨⟨⟨h1, h2⟩, h3⟩, h4⟩, h5⟩, h6⟩, h7⟩, h8⟩ := h
  have hk : X.env.scope.kind = .function := by rw [ok.sc]; exact ok.kind
  have hb : X.env.blockKind = .function := by unfold PySem.Env.blockKind; rw [hk]; rfl
  have l1 : X.env.kindOf x = some .local := by
    show X.env.scope.names.lookup x = _
    rw [ok.sc]
    split at h3
    · assumption
    · cases h3
  have l2 : X.env.kindOf y = some .local := by
    show X.env.scope.names.lookup y = _
    rw [ok.sc]
    split at h4
    · assumption
    · cases h4
  have hl : py.line = px.line := by have := (beq_iff_eq (a := px.line) (b := py.line)).mp h5; exact this.symm
  have hs : ([a, b].any fun | .Starred .. => true | _ => false) = false := by
    show (isStar a || (isStar b || false)) = false
    rw [star1 h1, star1 h2]
    rfl
  have hxy : (y == x) = false := by
    cases q : (y == x) with
    | false => rfl
    | true => rw [beq_iff_eq] at q; subst q; rw [beq_self_eq_true] at h6; cases h6
  unfold swappedStores
  simp only [hb, l1, l2, hl, h7, h8, hs, List.filterMap_cons, List.filterMap_nil, List.length_cons, List.length_nil, List.head?_cons, Option.map_some, Option.getD_some, Expr.pos]
  simp [List.eraseDups_cons, hxy]
  intro q
  have s1 := star1 h1
  have s2 := star1 h2
  unfold isStar at s1 s2
  rcases q with q | q
  · have : isStar a = true := q
    rw [star1 h1] at this; cases this
  · have : isStar b = true := q
    rw [star1 h2] at this; cases this
def sPair : SR := fun r g st => match st with
  | .Assign [.Tuple [.Name x px, .Name y py] _ _] (.Tuple [a, b] _ _) _ => if parB g x y px.line py.line 0 a b = true then match slotOf g x, slotOf g y, r.v g a, r.v g b with
    | some i, some j, some c, some d => if i = j then none else some (sPar i j (decide (i ∈ g.own)) (decide (j ∈ g.own)) c d)
    | _, _, _, _ => none else none
  | _ => none
theorem sPair_ok : SrOk sPair := by
  intro r R X g E st c ok hp h
  unfold sPair at h
  split at h
  · rename_i x px y py kt pt a b k2 pt2 pos
    split at h
    · rename_i hb
      split at h
      · rename_i i j c d h1 h2 h3 h4
        split at h
        · cases h
        · rename_i hij
          cases h
          have hb2 := hb
          unfold parB at hb2
          simp only [Bool.and_eq_true] at hb2
          obtain ⟨⟨⟨⟨⟨⟨⟨b1, b2⟩, b3⟩, b4⟩, _⟩, _⟩, _⟩, _⟩ := hb2
          obtain ⟨q1, _⟩ := slotOf_is h1
          obtain ⟨q2, _⟩ := slotOf_is h2
          have l1 : X.env.scope.names.lookup x = some .local := by
            rw [ok.sc]
            split at b3
            · assumption
            · cases b3
          have l2 : X.env.scope.names.lookup y = some .local := by
            rw [ok.sc]
            split at b4
            · assumption
            · cases b4
          exact rs_par _ _ ok.calm (by rw [ok.N]; exact ok.nd) (by rw [ok.N]; exact q1) (by rw [ok.N]; exact q2) hij l1 l2 (R.v ok h3) (R.v ok h4) (plain_star b1) (plain_star b2) (par_sw ok hb) rfl
      · cases h
    · cases h
  · cases h

theorem SgOk.ex {X : Cx} {g : Sg} {E E' : EX} (ok : SgOk X g E) (tk : Takes X (wX X.K E')) (ef : g.nt = false → ∀ x ρ ρ', E'.e x ρ → E'.e x ρ') : SgOk X g E' := ⟨tk, ok.N, ok.nd, ok.sc, ok.kind, ok.calm, ok.gd, ok.un, ok.st, ok.gl, ok.fr, ef⟩
/-! ### the reader -/
def minus (g : Sg) (is : List Nat) : Sg := { g with own := g.own.filter fun i => !is.contains i }
theorem minus_ok {X : Cx} {g : Sg} {E : EX} (ok : SgOk X g E) (is : List Nat) : SgOk X (minus g is) E := ⟨ok.tk, ok.N, ok.nd, ok.sc, ok.kind, ok.calm, ok.gd, ok.un, ok.st, ok.gl, ok.fr, ok.ef⟩
abbrev TR := Rec → Sg → Expr → Option CT
def TrOk (f : TR) : Prop := ∀ {r : Rec}, RecOk r → ∀ {X : Cx} {g : Sg} {E : EX} {e : Expr} {c : CT}, SgOk X g E → f r g e = some c → PT X e (rdT X.K E c)
structure Rules where
  v : List VR
  i : List IR
  s : List SR
  t : List TR := []
structure RulesOk (R : Rules) : Prop where
  v : ∀ f ∈ R.v, VrOk f
  i : ∀ f ∈ R.i, IrOk f
  s : ∀ f ∈ R.s, SrOk f
  t : ∀ f ∈ R.t, TrOk f := by intro f h; cases h
def sTry (R : Rules) (r : Rec) (g : Sg) (st : Stmt) : Option CS := R.s.findSome? fun f => f r g st
def frzAll (is : List Nat) (c : CS) : CS := is.foldr sFrz c
def sStep (R : Rules) (r : Rec) (g : Sg) (st : Stmt) : Option CS := match sTry R r g st with
  | some c => some c
  | none => match g.own.findSome? (fun i => (sTry R r (minus g [i]) st).map (sFrz i)) with
    | some c => some c
    | none => if g.own.isEmpty = true then none else (sTry R r (minus g g.own) st).map (frzAll g.own)
/-! ### a test may look at what is one's own -/
def frzE (ρ : Env) : List Nat → Env
  | [] => ρ
  | i :: is => match (frzE ρ is)[i]? with
    | some (.ow d _) => (frzE ρ is).set i (.sh d)
    | _ => frzE ρ is
theorem REnv.frzE {K : PySem.W.Frag} {B F0 F H : Hp} {σ : L2.St} {ρ : Env} (re : REnv K B F0 F H σ ρ) : ∀ is : List Nat, ∃ F2, REnv K B F0 F2 H σ (frzE ρ is)
  | [] => ⟨F, re⟩
  | i :: is => by
    obtain ⟨F2, re2⟩ := REnv.frzE re is
    unfold DL.frzE
    split
    · rename_i d z e
      exact re2.frz e
    · exact ⟨F2, re2⟩
def tLend (is : List Nat) (t : CT) : CT := fun ρ Q _ => t (frzE ρ is) Q (fun _ => False)
theorem rt_lend {X : Cx} {E : EX} {e : Expr} {t : CT} (is : List Nat) (h : PT X e (rdT X.K E.no t)) : PT X e (rdT X.K E (tLend is t)) := h.imp fun σ H Q' ⟨F, ρ, Q, re, h, k⟩ => by
  obtain ⟨F2, re2⟩ := re.frzE is
  exact ⟨F2, _, Q, re2, h, fun b H' F' g q => k b H' F ⟨g.h, Same.refl F, re.fh.trans g.h, fun _ _ e => .inl e⟩ q⟩
def tStep (r : Rec) (g : Sg) (e : Expr) : Option CT := match tOf r g e with
  | some c => some c
  | none => if g.own.isEmpty = true then none else (tOf r (minus g g.own) e).map (tLend g.own)
theorem tStep_ok {r : Rec} (R : RecOk r) {X : Cx} {g : Sg} {E : EX} (ok : SgOk X g E) {e : Expr} {c : CT} (h : tStep r g e = some c) : PT X e (rdT X.K E c) := by
  unfold tStep at h
  split at h
  · rename_i q; cases h; exact tOf_ok R ok q
  · split at h
    · cases h
    · obtain ⟨c2, h2, rfl⟩ := map_some h
      exact rt_lend _ (tOf_ok R (minus_ok ok.no _) h2)
def stepR (R : Rules) (r : Rec) : Rec where
  v := fun g e => R.v.findSome? fun f => f r g e
  t := fun g e => match R.t.findSome? fun f => f r g e with
    | some c => some c
    | none => tStep r g e
  i := fun g tg e => R.i.findSome? fun f => f r g tg e
  s := sStep R r
def recN (R : Rules) : Nat → Rec
  | 0 => ⟨fun _ _ => none, fun _ _ => none, fun _ _ _ => none, fun _ _ => none⟩
  | n + 1 => stepR R (recN R n)
theorem frzAll_ok {X : Cx} {E : EX} {st : Stmt} : ∀ (is : List Nat) {c : CS}, PS X st (rdS X.K E c) → PS X st (rdS X.K E (frzAll is c))
  | [], _, h => h
  | i :: is, _, h => rs_frz i (frzAll_ok is h)
theorem recN_ok {R : Rules} (O : RulesOk R) : ∀ n, RecOk (recN R n)
  | 0 => by
    refine ⟨fun {X g E e c} ok h => ?_, fun {X g E e c} ok h => ?_, fun {X g E tg e c} ok h => ?_, fun {X g E st c} ok hp h => ?_⟩
    · exact absurd (show (none : Option CV) = some c from h) (by simp)
    · exact absurd (show (none : Option CT) = some c from h) (by simp)
    · exact absurd (show (none : Option CI) = some c from h) (by simp)
    · exact absurd (show (none : Option CS) = some c from h) (by simp)
  | n + 1 => by
    have ih := recN_ok O n
    have tr : ∀ {X : Cx} {g : Sg} {E : EX} {st : Stmt} {c : CS}, SgOk X g E → PassesOwn (model X.prog X.w) X.A X.env X.xe → sTry R (recN R n) g st = some c → PS X st (rdS X.K E c) := by
      intro X g E st c ok hp h
      obtain ⟨f, hf, h1⟩ := List.exists_of_findSome?_eq_some h
      exact O.s f hf ih ok hp h1
    refine ⟨fun {X g E e c} ok h => ?_, fun {X g E e c} ok h => ?_, fun {X g E tg e c} ok h => ?_, fun {X g E st c} ok hp h => ?_⟩
    · obtain ⟨f, hf, h1⟩ := List.exists_of_findSome?_eq_some h
      exact O.v f hf ih ok h1
    · have h : (match R.t.findSome? fun f => f (recN R n) g e with | some c => some c | none => tStep (recN R n) g e) = some c := h
      split at h
      · rename_i q
        cases h
        obtain ⟨f, hf, h1⟩ := List.exists_of_findSome?_eq_some q
        exact O.t f hf ih ok h1
      · exact tStep_ok ih ok h
    · obtain ⟨f, hf, h1⟩ := List.exists_of_findSome?_eq_some h
      exact O.i f hf ih ok h1
    · have h : sStep R (recN R n) g st = some c := h
      unfold sStep at h
      split at h
      · rename_i q; cases h; exact tr ok hp q
      · split at h
        · rename_i q
          cases h
          obtain ⟨i, hi, h1⟩ := List.exists_of_findSome?_eq_some q
          obtain ⟨c2, h2, rfl⟩ := map_some h1
          exact rs_frz i (tr (minus_ok ok _) hp h2)
        · split at h
          · cases h
          · obtain ⟨c2, h2, rfl⟩ := map_some h
            exact frzAll_ok _ (tr (minus_ok ok _) hp h2)
end DL
namespace DL
open PySem L2

/-! ### defs -/
def GvB (P : Program) (w : World) (K : PySem.W.Frag) (mg : Str → Option Value) (base : Heap) (k : Nat) (x : Str) : GV → Prop
  | .fn n m kw => ∃ (j : Nat) (f : Addr) (fd : FuncData) (ps : List Str), j ≤ k ∧ FnG P w K mg base (L2.CX P w) j f fd ps (SpM K ps.length m) ∧ mg x = some (.ref f) ∧ PySem.W.keepIn K (.ref f) = true ∧ Binds K fd ps [] ∧ ps.length = n ∧
      ∀ z ∈ kw, KwOk K fd ps z.1 z.2.1 z.2.2
  | .fo n m kw => ∃ (j : Nat) (f : Addr) (fd : FuncData) (ps : List Str), j ≤ k ∧ FnG P w K mg base (L2.CX P w) j f fd ps (SpF true K ps.length m) ∧ mg x = some (.ref f) ∧ PySem.W.keepIn K (.ref f) = true ∧ Binds K fd ps [] ∧ ps.length = n ∧
      ∀ z ∈ kw, KwOk K fd ps z.1 z.2.1 z.2.2
  | .cv d => ∃ (v : V) (u : Value), mg x = some u ∧ RelV v u ∧ ∀ F, Rep K F v d
  | .bi id m => mg x = none ∧ bootBuiltins x = some (.builtin id) ∧ x ≠ "__name__" ∧ ∀ Y : Cx, Y.calm = true → Y.A.guards = some [] → Y.A.units + 110 < cLine → CallR Y (.builtin id) (rcM Y.K m)
  | .ty T m => mg x = none ∧ bootBuiltins x = some (.type T) ∧ x ≠ "__name__" ∧ ∀ Y : Cx, Y.calm = true → Y.A.guards = some [] → Y.A.units + 110 < cLine → CallR Y (.type T) (rcM Y.K m)
  | .sp => mg x = none
  | .cls fl => ∃ C, ClsAt K x C ∧ mg x = some (.ref C) ∧ ClsX K C ∧ ∀ f ∈ fl, NoAttr K C f
  | .xc fo => ∃ (C fI : Addr) (fd : FuncData) (j : Nat), j + 1 ≤ k ∧ ClsAt K x C ∧ mg x = some (.ref C) ∧ XMk P w K mg base j C fI fd fo ∧ ExcC K C ∧ XfC K C
  | .ini c n mo kw => ∃ (C f : Addr) (j : Nat) (fd : FuncData) (ps : List Str), j + 1 ≤ k ∧ ClsAt K c C ∧ mg c = some (.ref C) ∧ Mk K C f ∧ FnG P w K mg base (L2.CX P w) j f fd ps (SpO K ps.length mo) ∧ Binds K fd ps [] ∧ ps.length = n + 1 ∧
      ∀ z ∈ kw, KwOk K fd ps (z.1 + 1) z.2.1 (0 :: z.2.2.map (· + 1))
  | .spi c dn n mo => ∃ (C Da f : Addr) (j : Nat) (fd : FuncData) (ps : List Str), j ≤ k ∧ ClsAt K c C ∧ ClsAt K dn Da ∧ PySem.W.mroIn K C (.ref Da) = some true ∧ PySem.W.ks_superIn K C Da "__init__" = some (some (.ref f)) ∧ PySem.W.typeIn K (.ref f) = some (.type "function") ∧ PySem.W.fnIn K f = true ∧
      PySem.W.nsIn K cStatics "thirdparty.any" = some none ∧ FnG P w K mg base (L2.CX P w) j f fd ps (SpO K ps.length mo) ∧ Binds K fd ps [] ∧ ps.length = n + 1
  | .cc c f d => ∃ (C : Addr) (v : V) (u : Value), ClsAt K c C ∧ Cls K C ∧ Con K C f v u ∧ ∀ F, Rep K F v d
  | .stm c m n mm kw => ∃ (C p g : Addr) (mc : Value) (j : Nat) (fd : FuncData) (ps : List Str), j ≤ k ∧ ClsAt K c C ∧ mg c = some (.ref C) ∧ StM K C mc m p g ∧ FnG P w K mg base (L2.CX P w) j g fd ps (SpM K ps.length mm) ∧ Binds K fd ps [] ∧ ps.length = n ∧
      ∀ z ∈ kw, KwOk K fd ps z.1 z.2.1 z.2.2
  | .isa c d b => ∃ (C Da : Addr), ClsAt K c C ∧ ClsAt K d Da ∧ mg d = some (.ref Da) ∧ PySem.W.kitOne K (.ref C) (.ref Da) = some b
  | .ops c os ne => ∃ C : Addr, ClsAt K c C ∧ (∀ op ∈ os, opB K C op = true) ∧ (ne = true → PySem.W.findIn K (.ref C) "__ne__" = some (some (.builtin "object.__ne__")))
  | .mo c m n mm kw => ∃ (C : Addr) (j : Nat) (f : Addr) (fd : FuncData) (ps : List Str), j ≤ k ∧ ClsAt K c C ∧ Cls K C ∧ Meth K C m f ∧ FnG P w K mg base (L2.CX P w) j f fd ps (SpO K ps.length mm) ∧ Binds K fd ps [] ∧ ps.length = n ∧ ∀ z ∈ kw, KwOk K fd ps (z.1 + 1) z.2.1 (0 :: z.2.2.map (· + 1))
  | .me c m n mm kw => ∃ (C : Addr) (j : Nat) (f : Addr) (fd : FuncData) (ps : List Str), j + 1 ≤ k ∧ ClsAt K c C ∧ Cls K C ∧ Meth K C m f ∧ FnG P w K mg base (L2.CX P w) j f fd ps (SpM K ps.length mm) ∧ Binds K fd ps [] ∧ ps.length = n ∧ ∀ z ∈ kw, KwOk K fd ps (z.1 + 1) z.2.1 (0 :: z.2.2.map (· + 1))
  | .pr c f mm => ∃ (C : Addr) (j : Nat) (p g : Addr) (fd : FuncData) (ps : List Str), j + 1 ≤ k ∧ ClsAt K c C ∧ Cls K C ∧ PropOf K C f p g ∧ FnG P w K mg base (L2.CX P w) j g fd ps (SpM K ps.length mm) ∧ Binds K fd ps [] ∧ ps.length = 1
  | .xb c => ∃ C : Addr, ClsAt K c C ∧ mg c = some (.ref C) ∧ PySem.W.kitCls K (.type "int") (.ref C) = some false
  | .xis c d b => ∃ (C Da : Addr), ClsAt K c C ∧ ClsAt K d Da ∧ PySem.W.kitOne K (.ref C) (.ref Da) = some b ∧ PySem.W.exmOne K (.ref C) (.ref Da) = some b
  | .bt T => mg x = none ∧ bootBuiltins x = some (.type T) ∧ x ≠ "__name__"
  | .xit c T b => ∃ C : Addr, ClsAt K c C ∧ PySem.W.kitOne K (.ref C) (.type T) = some b
def GlB (P : Program) (w : World) (K : PySem.W.Frag) (mg : Str → Option Value) (base : Heap) (k : Nat) (gl : List (Str × GV)) : Prop := ∀ p ∈ gl, GvB P w K mg base k p.1 p.2
section
variable {P : Program} {w : World} {K : PySem.W.Frag} {mg : Str → Option Value} {base : Heap} {k : Nat} {gl : List (Str × GV)}
theorem GvB.mono {x : Str} {v : GV} {j : Nat} (h : GvB P w K mg base j x v) (hj : j ≤ k) : GvB P w K mg base k x v := by
  cases v with
  | fn n m kw => obtain ⟨i, f, fd, ps, h1, h2⟩ := h; exact ⟨i, f, fd, ps, Nat.le_trans h1 hj, h2⟩
  | fo n m kw => obtain ⟨i, f, fd, ps, h1, h2⟩ := h; exact ⟨i, f, fd, ps, Nat.le_trans h1 hj, h2⟩
  | me c m n mm kw => obtain ⟨C, i, f, fd, ps, h1, h2⟩ := h; exact ⟨C, i, f, fd, ps, Nat.le_trans h1 hj, h2⟩
  | pr c f mm => obtain ⟨C, i, p, g, fd, ps, h1, h2⟩ := h; exact ⟨C, i, p, g, fd, ps, Nat.le_trans h1 hj, h2⟩
  | xc fo => obtain ⟨C, fI, fd, i, h1, h2⟩ := h; exact ⟨C, fI, fd, i, Nat.le_trans h1 hj, h2⟩
  | ini c n mo kw => obtain ⟨C, f, i, fd, ps, h1, h2⟩ := h; exact ⟨C, f, i, fd, ps, Nat.le_trans h1 hj, h2⟩
  | spi c dn n mo => obtain ⟨C, Da, f, i, fd, ps, h1, h2⟩ := h; exact ⟨C, Da, f, i, fd, ps, Nat.le_trans h1 hj, h2⟩
  | stm c m n mm kw => obtain ⟨C, p, g, mc, i, fd, ps, h1, h2⟩ := h; exact ⟨C, p, g, mc, i, fd, ps, Nat.le_trans h1 hj, h2⟩
  | mo c m n mm kw => obtain ⟨C, i, f, fd, ps, h1, h2⟩ := h; exact ⟨C, i, f, fd, ps, Nat.le_trans h1 hj, h2⟩
  | _ => exact h
theorem GlB.nil : GlB P w K mg base k [] := fun p hp => by cases hp
theorem GlB.cons {x : Str} {v : GV} {j : Nat} (hv : GvB P w K mg base k x v) (h : GlB P w K mg base j gl) (hj : j ≤ k) : GlB P w K mg base k ((x, v) :: gl) := fun p hp => by
  rcases List.mem_cons.mp hp with rfl | hp
  · exact hv
  · exact (h p hp).mono hj
theorem GlB.mono {j : Nat} (h : GlB P w K mg base j gl) (hj : j ≤ k) : GlB P w K mg base k gl := fun p hp => (h p hp).mono hj
theorem mem_of_look {x : Str} {v : GV} : ∀ {gl : List (Str × GV)}, gl.lookup x = some v → (x, v) ∈ gl
  | (y, u) :: gl, h => by
    rw [List.lookup_cons] at h
    split at h
    · rename_i q
      cases h
      rw [beq_iff_eq] at q
      subst q
      exact List.mem_cons_self
    · exact List.mem_cons_of_mem _ (mem_of_look h)
def stsOf (sc : Scope) : List Str := (sc.names.map (·.1)).filter fun x => match sc.names.lookup x with | some .local => true | some .cell => true | _ => false
def mkSg (N : List Str) (sc : Scope) (gl : List (Str × GV)) (own : List Nat) (ro : Bool := false) (nt : Bool := false) : Sg := ⟨N, sc, stsOf sc, gl, own, ro, false, nt⟩
def startE (N : List Str) (ds : List D) : Env := ds.map .sh ++ List.replicate (N.length - ds.length) .no
theorem start_env {F H : Hp} {N : List Str} {vs : List V} {ds : List D} (s : Same F H) (r : RepL K F vs ds) : REnv K H F F H (L2.start N vs) (startE N ds) where
  bh := Same.refl H
  f0 := Same.refl F
  fh := s
  fr := fun _ _ e => .inl e
  len := by unfold L2.start startE; rw [List.length_append, List.length_append, List.length_map, List.length_map, List.length_replicate, List.length_replicate, r.length]
  cell := fun i c e => by
    unfold startE at e
    unfold L2.start
    by_cases hi : i < ds.length
    · rw [List.getElem?_append_left (by simpa using hi), List.getElem?_map] at e
      obtain ⟨d, hd⟩ : ∃ d, ds[i]? = some d := ⟨_, List.getElem?_eq_getElem hi⟩
      rw [hd] at e
      cases e
      obtain ⟨v, h1, h2⟩ := r.get hd
      refine ⟨some v, ?_, v, rfl, h2⟩
      rw [List.getElem?_append_left (by rw [List.length_map, r.length]; exact hi), List.getElem?_map, h1]
      rfl
    · have hi' : ds.length ≤ i := Nat.le_of_not_lt hi
      rw [List.getElem?_append_right (by simpa using hi'), List.length_map] at e
      rw [List.getElem?_append_right (by rw [List.length_map, r.length]; exact hi'), List.length_map, r.length]
      rw [List.getElem?_replicate] at e ⊢
      split at e
      · rename_i q
        cases e
        exact ⟨none, by rw [if_pos q], trivial⟩
      · cases e
  dis := fun i j d e z y p _ h1 _ => by
    exfalso
    unfold startE at h1
    have hm := List.mem_of_getElem? h1
    rw [List.mem_append] at hm
    rcases hm with hm | hm
    · obtain ⟨d, _, q⟩ := List.mem_map.mp hm; cases q
    · have := List.eq_of_mem_replicate hm; cases this
theorem cx_ok {n : Nat} {qual : Str} {sc : Scope} {f : Addr} {N ps : List Str} {own : List Nat} {ro nt : Bool} {cdv : Value} {A : Around} {outer : List PySem.Env} {s : Shared} {H : Hp} {E : XK} (S : FnScope N ps sc) (hg : GlB P w K mg base k gl)
    (hr : Room k (A.deeper (PyProof.Rows.envOfC qual sc s.heap.objs.size f cdv))) (gd : A.guards = some []) {F0 : Hp} {ED : Xn → Prop} (hE : ∀ x cls dx H' F', Grow F0 H F' H' → XRep K F' x cls dx → ED x → E cls dx H') : SgOk (cxOf (L2.CX P w) P w K mg base N qual sc f cdv A outer s H E) (mkSg N sc gl own ro nt) ⟨H, F0, fun x _ => ED x⟩ := by
  refine ⟨(takes_of rfl rfl rfl rfl).imp (fun cls d σ H' ⟨F, ρ, x, re, xr, q⟩ => hE x cls d H' F re.gr0 xr q), rfl, S.nd, rfl, S.kind, rfl, gd, ?_, fun x hx => ?_, fun x v hx => ?_, fun _ => ⟨rfl, rfl, rfl⟩, fun _ _ _ _ h => h⟩
  · have := hr.un
    refine Nat.lt_of_le_of_lt ?_ this
    show (A.deeper _).units + 110 ≤ _
    omega
  · refine ⟨?_, .inl rfl⟩
    have hx : x ∈ stsOf sc := hx
    unfold stsOf at hx
    have := (List.mem_filter.mp hx).2
    split at this
    · rename_i q; exact .inl q
    · rename_i q; exact .inr q
    · cases this
  · have hx : gl.lookup x = some v := hx
    have q := hg _ (mem_of_look hx)
    cases v with
    | fn n m kw =>
      obtain ⟨j, f', fd', ps', hj, h1, h2⟩ := q
      exact ⟨j, f', fd', ps', h1, hr.mono hj, h2⟩
    | fo n m kw =>
      obtain ⟨j, f', fd', ps', hj, h1, h2⟩ := q
      exact ⟨j, f', fd', ps', h1, hr.mono hj, h2⟩
    | cv d => exact q
    | bi id m => exact q
    | ty T m => exact q
    | sp => exact q
    | cls fl => exact q
    | xb c => exact q
    | xis c d b => exact q
    | bt T => exact q
    | xit c T b => exact q
    | me c m n mm kw =>
      obtain ⟨C, j, f', fd', ps', hj, h1, h2, h3, h4, h5⟩ := q
      exact ⟨C, j, f', fd', ps', h1, h2, h3, h4, hr.mono hj, h5⟩
    | pr c f mm =>
      obtain ⟨C, j, p', g', fd', ps', hj, h1, h2, h3, h4, h5⟩ := q
      exact ⟨C, j, p', g', fd', ps', h1, h2, h3, h4, hr.mono hj, h5⟩
    | xc fo =>
      obtain ⟨C, fI, fd', j, hj, h1, h2, h3, h4, h5⟩ := q
      exact ⟨C, fI, fd', j, h1, h2, h3, h4, h5, hr.mono hj⟩
    | ini c n mo kw =>
      obtain ⟨C, f', j, fd', ps', hj, h1, h2, h3, h4, h5⟩ := q
      exact ⟨C, f', j, fd', ps', h1, h2, h3, h4, hr.mono hj, h5⟩
    | spi c dn n mo =>
      obtain ⟨C, Da, f', j, fd', ps', hj, h1, h2, h3, h4, h5, h6, h7, h8, h9⟩ := q
      exact ⟨C, Da, f', j, fd', ps', h1, h2, h3, h4, h5, h6, h7, h8, hr.mono hj, h9⟩
    | cc c f d => exact q
    | stm c m n mm kw =>
      obtain ⟨C, p', g', mc, j, fd', ps', hj, h1, h2, h3, h4, h5⟩ := q
      exact ⟨C, p', g', mc, j, fd', ps', h1, h2, h3, h4, hr.mono hj, h5⟩
    | isa c d b => exact q
    | ops c os ne => exact q
    | mo c m n mm kw =>
      obtain ⟨C, j, f', fd', ps', hj, h1, h2, h3, h4, h5⟩ := q
      exact ⟨C, j, f', fd', ps', h1, h2, h3, h4, hr.mono hj, h5⟩
theorem def_ok {R : Rules} (O : RulesOk R) {n : Nat} {x qual : Str} {st : Stmt} {f : Addr} {fd : FuncData} {N ps : List Str} {own : List Nat} {c : CS} {m : List D → M D} (F : Fun K x qual st f fd) (S : FnScope N ps (defScope st)) (hg : GlB P w K mg base k gl)
    (he : ssOf (recN R n) (mkSg N (defScope st) gl own) (defBody st) = some c) (hm : ∀ ds QD ED, m ds QD ED → c (startE N ds) { nx := fun _ => QD .non, rt := fun d _ => QD d } (fun x _ => ED x)) : FnG P w K mg base (L2.CX P w) (k + 1) f fd ps (SpM K ps.length m) := by
  refine Fun.okG F S (fun vs H Q E h => h.1) (fun cdv A outer s H vs Q E hr gd h => ?_)
  obtain ⟨hn, F0, ds, QD, ED, sm, r, hq, kq, ke⟩ := h
  refine ⟨rdS K ⟨H, F0, fun x _ => ED x⟩ c, ssOf_ok (recN_ok O n) (g := mkSg N (defScope st) gl own) (cx_ok (n := n) S hg hr gd ke) PassesOwn.leaving he, F0, startE N ds, _, start_env sm r, hm ds QD ED hq, ?_⟩
  exact ⟨fun σ' H' F' ρ' re q => kq .non H' F' .non re.gr0 (Val.of .non) q, fun v σ' H' F' ρ' d re rp q => kq v H' F' d re.gr0 (Val.of rp) q, fun σ' H' F' ρ' re q => (show False from q).elim, fun σ' H' F' ρ' re q => (show False from q).elim, fun _ _ _ _ _ _ _ _ _ _ q => (show False from q).elim⟩
/-- a def that gives out what is its own -/
theorem def_okO {R : Rules} (O : RulesOk R) {n : Nat} {x qual : Str} {st : Stmt} {f : Addr} {fd : FuncData} {N ps : List Str} {own : List Nat} {c : CS} {m : List D → M D} (F : Fun K x qual st f fd) (S : FnScope N ps (defScope st)) (hg : GlB P w K mg base k gl)
    (he : ssOf (recN R n) (mkSg N (defScope st) gl own true) (defBody st) = some c) (hm : ∀ ds QD ED, m ds QD ED → c (startE N ds) { nx := fun _ => False, rt := fun _ _ => False, ro := fun d _ => QD d } (fun x _ => ED x)) : FnG P w K mg base (L2.CX P w) (k + 1) f fd ps (SpF true K ps.length m) := by
  refine Fun.okG F S (fun vs H Q E h => h.1) (fun cdv A outer s H vs Q E hr gd h => ?_)
  obtain ⟨hn, F0, ds, QD, ED, sm, r, hq, kq, ke⟩ := h
  refine ⟨rdS K ⟨H, F0, fun x _ => ED x⟩ c, ssOf_ok (recN_ok O n) (g := mkSg N (defScope st) gl own true) (cx_ok (n := n) S hg hr gd ke) PassesOwn.leaving he, F0, startE N ds, _, start_env sm r, hm ds QD ED hq, ?_⟩
  exact ⟨fun σ' H' F' ρ' re q => (show False from q).elim, fun v σ' H' F' ρ' d re rp q => (show False from q).elim, fun σ' H' F' ρ' re q => (show False from q).elim, fun σ' H' F' ρ' re q => (show False from q).elim,
    fun p σ' H' F' ρ' d re h1 h2 h3 q => kq (.ref p) H' F' d re.gr0 (Val.own h1 h2 h3) q⟩
/-- a def's keywords -/
theorem Fun.kw {x qual : Str} {st : Stmt} {f : Addr} {fd : FuncData} {ps ks : List Str} {n : Nat} {is : List Nat} (F : Fun K x qual st f fd)
    (h : ∀ (kV doc pm : Value) (an : Option Addr) (cdv ct : Value) (us ws : List Value), us.length = n → ws.length = ks.length → bindArgs (PySem.W.fnOf x qual (defArgs st) (defBody st) (defScope st) .none kV doc pm an cdv ct) ⟨us, ks.zip ws⟩ = pure (ps.zip (pick is (us ++ ws)))) : KwOk K fd ps n ks is := by
  obtain ⟨oc, od, kV, doc, pm, an, cdv, ct, osl, rfl, lk, hcd⟩ := F.ex
  exact ⟨fun s us ws _ hu hw => .of_eq (h kV doc pm an cdv ct us ws hu hw)⟩
theorem GvB.fun {x : Str} {st : Stmt} {f : Addr} {fd : FuncData} {ps : List Str} {m : List D → M D} {kw : List (Nat × List Str × List Nat)} {n : Nat} (F : Fun K x x st f fd) (hx : mg x = some (.ref f)) (b : Binds K fd ps []) (h : FnG P w K mg base (L2.CX P w) k f fd ps (SpM K ps.length m)) (hn : ps.length = n)
    (hk : ∀ z ∈ kw, KwOk K fd ps z.1 z.2.1 z.2.2) : GvB P w K mg base k x (.fn n m kw) := ⟨k, f, fd, ps, Nat.le_refl _, h, hx, F.kp, b, hn, hk⟩
theorem GvB.funO {x : Str} {st : Stmt} {f : Addr} {fd : FuncData} {ps : List Str} {m : List D → M D} {kw : List (Nat × List Str × List Nat)} {n : Nat} (F : Fun K x x st f fd) (hx : mg x = some (.ref f)) (b : Binds K fd ps []) (h : FnG P w K mg base (L2.CX P w) k f fd ps (SpF true K ps.length m)) (hn : ps.length = n)
    (hk : ∀ z ∈ kw, KwOk K fd ps z.1 z.2.1 z.2.2) : GvB P w K mg base k x (.fo n m kw) := ⟨k, f, fd, ps, Nat.le_refl _, h, hx, F.kp, b, hn, hk⟩
end
end DL
/-! ### enumerate(v), v anything that begins and draws -/
namespace PySem
open Sem (wp)
theorem enum_new1 {v : Value} {o : Obj} {H : Heap → Prop} (B : Begins v o H) :
    Meets (Builtin.«enumerate.__new__» ⟨[.type "enumerate", v], []⟩) (fun _ R s => H s.heap ∧
      R (.ok (.ret (.ref (s.heap.push o).objs.size))) { s with heap := (s.heap.push o).push { cls := .type "enumerate", data := .fields #[.none, .bool false, .ref s.heap.objs.size, rawInt 0, .none, .none] } }) :=
  .of_wp fun prog w A R s h => by
    obtain ⟨hp, gn, dr, tk, os⟩ := s
    obtain ⟨hst, hr⟩ := h
    have h_sub := sub_enumerate
    have step : ∀ {A' : Around} {E : Value → Shared → Prop} {Q : Value → Shared → Prop}, Q (.ref hp.objs.size) ⟨hp.push o, gn, dr, tk, os⟩ → wpAny (model prog w) A' (pyIter v) Q E ⟨hp, gn, dr, tk, os⟩ :=
      fun q => B.iter prog w _ _ ⟨hp, gn, dr, tk, os⟩ _ hst q
    wp_walk using step
    refine wpAny_stack_any fun _ => wpAny_pure ?_
    split
    · rename_i c _ _ _ _ _
      cases (c == Value.type "enumerate") <;> (wp_walk using step; exact ⟨_, rfl, hr⟩)
    · wp_walk using step
      exact ⟨_, rfl, hr⟩
theorem enum_call1 {prog : Program} {w : World} {A : Around} {E : Value → Shared → Prop} {s : Shared} {v : Value} {o : Obj} {H : Heap → Prop} {Q : Value → Shared → Prop} (B : Begins v o H) (hst : H s.heap)
    (k : ∀ h', IsEnum h' (s.heap.objs.size + 1) s.heap.objs.size 0 .none → h'.get? s.heap.objs.size = some o → (∀ b ob, s.heap.get? b = some ob → h'.get? b = some ob) → Q (.ref (s.heap.objs.size + 1)) { s with heap := h' }) :
    wpAny (model prog w) A (call (.type "enumerate") [v]) Q E s := by
  refine callType_new F.called_enumerate (by decide) (F.typeCall_enumerate_1 _) (F.newCall_enumerate_1 _) (fun obj => F.args_object_init_2 obj _) F.entry_enumerate_new (enum_new1 B) ⟨hst, ?_⟩
  have size1 : (s.heap.push o).objs.size = s.heap.objs.size + 1 := Heap.size_push ..
  show _ ∧ _
  rw [size1]
  have there : IsEnum ((s.heap.push o).push { cls := .type "enumerate", data := .fields #[.none, .bool false, .ref s.heap.objs.size, rawInt 0, .none, .none] }) (s.heap.objs.size + 1) s.heap.objs.size 0 .none := by
    have got := Heap.get?_push_size (s.heap.push o) (o := { cls := .type "enumerate", data := .fields #[.none, .bool false, .ref s.heap.objs.size, rawInt 0, .none, .none] }) rfl
    rw [size1] at got
    exact got
  exact ⟨⟨_, there, rfl⟩, k _ there (Heap.get?_push_of_some _ (Heap.get?_push_size _ B.free)) fun b ob e => Heap.get?_push_of_some _ (Heap.get?_push_of_some _ e)⟩
end PySem

namespace DL
open PySem L2
/-- the tuple at a, each item in a new pair -/
def ItTe (K : PySem.W.Frag) (a : Addr) : It :=
  ⟨fun i H => ∃ (xs : List V) (x : V), SqT K H a xs ∧ xs[i]? = some x, fun i H v H' => ∃ T x, v = .ref T ∧ H T = none ∧ H' = upd H T (.tup [.int (i : Nat), x]) ∧ ∀ xs, SqT K H a xs → xs[i]? = some x, fun i H => ∃ xs : List V, SqT K H a xs ∧ xs.length = i⟩
theorem turn_enumT {P : Program} {w : World} {K : PySem.W.Frag} {elts : List Expr} {kk : Nat} {tpos : Pos} (a e it : Addr) :
    Turn P w K (.Tuple elts kk tpos) (ItTe K a) [e, it] e (fun i h => (∃ old, IsEnum h e it ((i : Nat) : Int) old) ∧ h.IsTupleIter it a i ∧ e ≠ it) where
  mem := by simp
  obj := fun i h st b hb => by
    obtain ⟨⟨old, he⟩, ⟨o, ho, hc, hd⟩, _⟩ := st
    have hb' : b = e ∨ b = it := by simpa using hb
    rcases hb' with rfl | rfl
    · exact ⟨_, he, fun v q => nomatch q⟩
    · exact ⟨o, ho, fun v q => by rw [hd] at q; cases q⟩
  keep := fun i h h' st k => let ⟨⟨old, he⟩, hi, hne⟩ := st; ⟨⟨old, k e (by simp) _ he⟩, hi.at fun o q => k it (by simp) o q, hne⟩
  item := by
    intro X hP hw hK hc i pins s σ H E I hf st hg
    subst hP hw hK
    obtain ⟨⟨old, he⟩, hit, hne⟩ := st
    obtain ⟨xs, x, hq, hx⟩ := hg
    obtain ⟨its, rv, p, hz⟩ := I.tuple hq
    obtain ⟨u, hu, ru⟩ := rv.get hx
    have p' : s.heap.IsTuple a its.toArray := p
    have hel : e < s.heap.objs.size := Heap.lt_size he
    have hil : it < s.heap.objs.size := by obtain ⟨_, q, _⟩ := hit; exact Heap.lt_size q
    have hea : e ≠ a := fun z => by
      obtain ⟨o, h1, h2, _⟩ := p'
      rw [← z, he] at h1
      cases h1
      simp at h2
    have hia : a ≠ it := fun z => by
      obtain ⟨o, h1, h2, _⟩ := p'
      obtain ⟨o', h3, h4, _⟩ := hit
      rw [z, h3] at h1
      cases h1
      rw [h4] at h2
      simp at h2
    have hlt : i < its.toArray.size := by
      have := lt_of_at hu
      simpa using this
    refine wpAny_pyNext_enum_itemD (Draws.tuple (A := X.A.in1) (I.ok.hd hc) it a hia its.toArray) he ⟨hit, p'⟩ hlt hne (by simp [hne, hea]) fun y h' tk hy ho hst hT hsz hk => ?_
    have ey : y = u := by
      have q1 : its[i]? = some y := by simpa using hy
      rw [hu] at q1
      exact (Option.some.inj q1).symm
    subst ey
    refine ⟨_, rfl, wpAny_letOwnedTupleGo_enum (s := { s with heap := h', toks := tk + 1 }) ho fun h'' he' sb => ?_⟩
    have hT2 : h''.get? s.heap.objs.size = some { cls := .type "tuple", data := .seq #[.int i tk, y] } := (sb.2 _ (Nat.ne_of_gt hel)).trans hT
    have new : ObjOk X.prog X.w (upd H s.heap.objs.size (.tup [.int (i : Nat), x])) h'' s.heap.objs.size (.tup [.int (i : Nat), x]) :=
      ⟨by show 2 ≤ sizeLine; decide, [.int i tk, y], .cons ⟨_, rfl⟩ (.cons ru .nil), ⟨_, hT2, rfl, _, rfl⟩⟩
    have I1 : Inv X pins σ (upd H s.heap.objs.size (.tup [.int (i : Nat), x])) { s with heap := h'', toks := tk + 1 } :=
      I.turnedNew (ch := [e, it]) (fun b ob hb q => (sb.2 b (fun z => hb (by simp [z]))).trans (hk b ob (fun z => hb (by simp [z])) (fun z => hb (by simp [z])) q)) hf (Nat.le_refl _) new
    refine ⟨.ref s.heap.objs.size, _, I1, rfl, ⟨_, x, rfl, I.hok.fresh (Nat.le_refl _), rfl, fun ys hy => by rw [I.tuple_inj hy hq]; exact hx⟩, ⟨⟨y, ?_⟩, hst.1.at fun o q => (sb.2 it (Ne.symm hne)).trans q, hne⟩, fun b hb => ?_⟩
    · have e1 : ((i + 1 : Nat) : Int) = (i : Int) + 1 := by omega
      rw [e1]; exact he'
    · have hb' : b < s.heap.objs.size := by
        have hb2 : b = e ∨ b = it := by simpa using hb
        rcases hb2 with rfl | rfl
        · exact hel
        · exact hil
      rw [upd_ne (Nat.ne_of_lt hb')]
      exact (hf b hb).1
  done := by
    intro X hP hw hK hc i pins s σ H E I hf st hg
    subst hP hw hK
    obtain ⟨⟨old, he⟩, hit, hne⟩ := st
    obtain ⟨xs, hq, hx⟩ := hg
    obtain ⟨its, rv, p, hz⟩ := I.tuple hq
    have p' : s.heap.IsTuple a its.toArray := p
    obtain ⟨f0, f1, f2, f3, f4, f5⟩ := hf it (by simp)
    have hl := rv.length
    have hia : a ≠ it := fun z => by
      obtain ⟨o, h1, h2, _⟩ := p'
      obtain ⟨o', h3, h4, _⟩ := hit
      rw [z, h3] at h1
      cases h1
      rw [h4] at h2
      simp at h2
    have hi : i = its.toArray.size := by rw [List.size_toArray]; omega
    exact wpAny_pyNext_enum_endD (Draws.tuple (A := X.A.in1) (I.ok.hd hc) it a hia its.toArray) he ⟨hi ▸ hit, p'⟩ fun h' eb => ⟨rfl, I.turned (t' := s.toks) (fun b o hb q => eb b o hb q) f0 f1 f3 f4 f5⟩
  self := fun A i s Q E st h => let ⟨⟨_, he⟩, _⟩ := st; wpAny_pyIter_enum he h
theorem walk_enumT {K : PySem.W.Frag} {a : Addr} {xs : List V} : Walk (ItTe K a) xs.length (fun H => SqT K H a xs) (YPair (fun i => some (.int (i : Nat))) (fun i => xs[i]?)) := by
  refine ⟨fun i _ hi q => ⟨xs, xs[i], q, by simp [hi]⟩, fun _ q => ⟨xs, q, rfl⟩, fun i H v H' _ q y => ?_⟩
  obtain ⟨T, x, h1, h2, h3, h4⟩ := y
  exact ⟨T, .int (i : Nat), x, h1, h2, h3, rfl, h4 xs q⟩
def enumM : List D → M (List D)
  | [.lst ds] => ret (enumD ds)
  | [.tup ds] => ret (enumD ds)
  | _ => fail
def iEn (l : CL) : CI := fun ρ => bnd (l ρ) enumM
theorem enum_pair {K : PySem.W.Frag} {F : Hp} {xs : List V} {ds : List D} (r : RepL K F xs ds) : ∀ i d, (enumD ds)[i]? = some d → ∃ a b, d = .tup [a, b] ∧ (∀ x, (fun i : Nat => some (V.int (i : Nat))) i = some x → Rep K F x a) ∧ ∀ x, (fun i : Nat => xs[i]?) i = some x → Rep K F x b := by
  intro i d e
  obtain ⟨a, b, rfl, h1, h2⟩ := pairs_at e
  refine ⟨a, b, rfl, fun x hx => ?_, fun x hx => ?_⟩
  · cases hx
    rw [upto_at h1]
    have : (0 : Int) + (i : Nat) * 1 = (i : Nat) := by omega
    rw [this]
    exact .int _
  · obtain ⟨v, q1, q2⟩ := r.get h2
    have hx : xs[i]? = some x := hx
    rw [q1] at hx
    cases hx
    exact q2
section
variable {X : Cx} {E : EX} {e : Expr} {cl : CL} {p pos tpos : Pos} {elts : List Expr} {kk : Nat}
open PySem.Spec PyProof.Rows in
theorem ri_enum (hg : Gl X "enumerate") (hm : X.mg "enumerate" = none) (ha : PA X [e] (rdL X.K E 1 cl)) (hs : starEach [e] X.env = [(false, eval e X.env)]) : PI X (.Tuple elts kk tpos) (.Call (.Name "enumerate" p) [e] [] pos) (rdI X.K E (iEn cl)) := by
  refine ⟨fun pins s σ H R I ⟨F, ρ, Q, re, h, k⟩ => ?_⟩
  refine Call_ (ld_blt I hg hm boot_enumerate (PyProof.Rows.callWith_type1 (thn (ha.run pos pins s σ H (fun vs H1 => ∃ F1 ds, Grow F H F1 H1 ∧ RepL X.K F1 vs ds ∧ vs.length = 1 ∧ enumM ds Q (E.at ρ)) I
    ⟨F, ρ, _, re, h, fun vs H1 F1 ds g1 r1 hn q => ⟨F1, ds, g1, r1, hn, q⟩⟩) ?_) hs rfl))
  rintro us s1 ⟨vs, H1, I1, r1, F1, ds, g1, rl, hn, q⟩
  obtain ⟨v, rfl⟩ := len1 hn
  obtain ⟨d, rfl, rp⟩ := rl.one
  obtain ⟨u, rfl, r⟩ := Vals.one r1
  have fin : ∀ (o : Obj) (J : It) (tn : Nat → Heap → Prop) (h' : Heap) (ds : List D), (∀ b ob, s1.heap.get? b = some ob → h'.get? b = some ob) → IsEnum h' (s1.heap.objs.size + 1) s1.heap.objs.size 0 .none →
      Turn X.prog X.w X.K (.Tuple elts kk tpos) J [s1.heap.objs.size + 1, s1.heap.objs.size] (s1.heap.objs.size + 1) tn → tn 0 h' → ItOk X.K F1 J ds → Q ds →
      wpAny (model X.prog X.w) X.A (pyIter (.ref (s1.heap.objs.size + 1))) (PIE X pins σ (.Tuple elts kk tpos) R) X.xe { s1 with heap := h' } := fun o J tn h' ds hk he T st io q => by
    refine wpAny_pyIter_enum he ?_
    have I2 : Inv X pins σ H1 { s1 with heap := h' } := I1.kept (t' := s1.toks) hk
    refine ⟨_, _, tn, J, H1, rfl, I2, T, st, fun b hb => ?_, k J H1 F1 ds g1 io q⟩
    have hb' : b = s1.heap.objs.size + 1 ∨ b = s1.heap.objs.size := by simpa using hb
    have hle : s1.heap.objs.size ≤ b := by
      rcases hb' with rfl | rfl
      · exact Nat.le_succ _
      · exact Nat.le_refl _
    exact I1.fpOk hle (I1.hok.fresh hle)
  cases rp with
  | @lst la lxs lds h1 rl2 =>
    cases r
    obtain ⟨its, rv, pp, hz⟩ := I1.list (SqL.of (g1.fh _ _ h1))
    refine enum_call1 (begins_list la its.toArray) pp.isList fun h' he ho hk => ?_
    exact fin { cls := .type "list_iterator", data := .fields #[.ref la, .int 0 0] } _ _ h' _ hk he (turn_enum la _ _) ⟨⟨.none, he⟩, ⟨_, ho, rfl, rfl⟩, Nat.succ_ne_self _⟩
      (ItOk.of_pair (G := fun H => SqL X.K H la lxs) (by rw [enumD_len, ← rl2.length]; exact walk_enum) (fun H s => sqL_same s h1) (enum_pair rl2)) q
  | @tup la lxs lds h1 rl2 =>
    cases r
    obtain ⟨its, rv, pp, hz⟩ := I1.tuple (sqT_same g1.fh h1)
    refine enum_call1 (begins_tuple la its.toArray) (show s1.heap.IsTuple la its.toArray from pp) fun h' he ho hk => ?_
    exact fin { cls := .type "tuple_iterator", data := .fields #[.ref la, .int 0 0] } _ _ h' _ hk he (turn_enumT la _ _) ⟨⟨.none, he⟩, ⟨_, ho, rfl, rfl⟩, Nat.succ_ne_self _⟩
      (ItOk.of_pair (G := fun H => SqT X.K H la lxs) (by rw [enumD_len, ← rl2.length]; exact walk_enumT) (fun H s => sqT_same s h1) (enum_pair rl2)) q
  | _ => exact (show False from q).elim
end
def iEnum : IR := fun r g tg e => match tg, e with
  | .Tuple _ _ _, .Call (.Name x _) [a] [] _ => if spB g x "enumerate" = true then (lOf r g [a]).map iEn else none
  | _, _ => none
theorem iEnum_ok : IrOk iEnum := by
  intro r R X g E tg e c ok h
  unfold iEnum at h
  split at h
  · split at h
    · rename_i hs
      obtain ⟨rfl, q1, q2⟩ := spB_is ok hs
      obtain ⟨l, h1, rfl⟩ := map_some h
      obtain ⟨h2, h3⟩ := lOf_ok (E := E) R ok h1
      rw [List.all_cons, Bool.and_eq_true] at h3
      exact ri_enum q1 q2 h2 (plain_star h3.1)
    · cases h
  · cases h
end DL
namespace DL
open PySem L2

/-! ### isinstance -/
inductive TyN where
  | non | bl | int | str | lst | tup | dct
  deriving DecidableEq
def TyN.s : TyN → String
  | .non => "NoneType"
  | .bl => "bool"
  | .int => "int"
  | .str => "str"
  | .lst => "list"
  | .tup => "tuple"
  | .dct => "dict"
def tyN : D → Option TyN
  | .non => some .non
  | .bl _ => some .bl
  | .int _ => some .int
  | .str _ => some .str
  | .lst _ => some .lst
  | .tup _ => some .tup
  | .dct _ => some .dct
  | _ => none
def clsN (T : String) : Option TyN := if T = "bool" then some .bl else if T = "int" then some .int else if T = "str" then some .str else if T = "list" then some .lst else if T = "tuple" then some .tup else if T = "dict" then some .dct else none
theorem clsN_is {T : String} {t : TyN} (h : clsN T = some t) : t.s = T := by
  unfold clsN at h
  split at h
  · cases h; subst T; rfl
  split at h
  · cases h; subst T; rfl
  split at h
  · cases h; subst T; rfl
  split at h
  · cases h; subst T; rfl
  split at h
  · cases h; subst T; rfl
  split at h
  · cases h; subst T; rfl
  cases h
def subN : TyN → TyN → Bool
  | .bl, .bl => true
  | .bl, .int => true
  | .int, .int => true
  | .str, .str => true
  | .lst, .lst => true
  | .tup, .tup => true
  | .dct, .dct => true
  | .non, .non => true
  | _, _ => false
theorem kit_sub (t T : TyN) : kitB t.s T.s = some (subN t T) := by cases t <;> cases T <;> decide +kernel
theorem kit_any {K : PySem.W.Frag} (t : TyN) : ∀ Ts : List TyN, PySem.W.kitAny K (.type t.s) (Ts.map fun T => .type T.s) = some (Ts.any (subN t))
  | [] => rfl
  | T :: Ts => by
    rw [List.map_cons, List.any_cons]
    refine kitAny_cons (kit_ty (kit_sub t T)) (fun e => ?_) fun e => ?_
    · rw [e, Bool.false_or]; exact kit_any t Ts
    · rw [e, Bool.true_or]
def isiM (Ts : List TyN) (d : D) : M (D × Bool) := match tyN d with
  | some t => ret (.bl (Ts.any (subN t)), false)
  | none => fail
def cIsi (a : CB) (Ts : List TyN) : CV := fun ρ => bnd (a ρ) (isiM Ts)
theorem tyX_of {K : PySem.W.Frag} {F H : Hp} {v : V} {d : D} {t : TyN} (s : Same F H) (b : Bor K F H v d) (h : tyN d = some t) : TyX K H v (.type t.s) := by
  cases d with
  | non => cases h; cases b.non; exact .base .non
  | bl x => cases h; cases b.bl; exact .base (.bl x)
  | int x => cases h; cases b.int; exact .base (.int x)
  | str x => cases h; cases b.str; exact .base (.str x)
  | lst ds => cases h; obtain ⟨a, vs, rfl, h, _⟩ := b.lst s; exact .base (.lst h)
  | tup ds =>
    cases h
    obtain ⟨a, vs, rfl, h, _⟩ := b.tup s
    rcases h with (h | ⟨o, h⟩) | ⟨o, its, n, h1, h2, _⟩
    · exact .base (.tup h)
    · exact .fTuple h
    · exact .kTuple h1 h2
  | dct kvs =>
    cases h
    rcases b with b | ⟨p, rfl, ks, h, r⟩
    · cases b with
      | dct h r => exact .base (.dK (s _ _ h))
    · exact .base (.dK h)
  | _ => cases h
def tyG (g : Sg) (x : Str) : Option TyN := if globB g x = true then match g.gl.lookup x with
  | some (.ty T _) => clsN T
  | _ => none else none
def tysG (g : Sg) : List Expr → Option (List TyN)
  | [] => some []
  | .Name x _ :: es => match tyG g x, tysG g es with
    | some t, some ts => some (t :: ts)
    | _, _ => none
  | _ :: _ => none
section
variable {X : Cx} {g : Sg} {E : EX}
theorem tyG_ok {E : EX} (ok : SgOk X g E) {x : Str} {t : TyN} {p : Pos} (h : tyG g x = some t) : PE X (.Name x p) (tC (.ty t.s)) := by
  unfold tyG at h
  split at h
  · rename_i hg
    obtain ⟨q1, q2⟩ := globB_is ok hg
    split at h
    · rename_i T m hl
      obtain ⟨hm, hv, hn, _⟩ := ok.gl _ _ hl
      rw [clsN_is h]
      exact pe_bltn q1 hm hv rfl hn q2
    · cases h
  · cases h
theorem tysG_ok {E : EX} (ok : SgOk X g E) : ∀ {es : List Expr} {ts : List TyN}, tysG g es = some ts → PA X es (fun σ H Q => Q (ts.map fun t => V.ty t.s) H)
  | [], _, h => by cases h; exact pa_nil
  | .Name x p :: es, _, h => by
    unfold tysG at h
    split at h
    · rename_i t ts h1 h2
      cases h
      exact (pa_cons (tyG_ok ok h1) (tysG_ok ok h2) rfl).imp fun σ H Q q => q
    · cases h
theorem cls_pair : ∀ ts : List TyN, Paired ClsV (ts.map fun t => V.ty t.s) (ts.map fun t => Value.type t.s)
  | [] => .nil
  | t :: ts => .cons (.ty _) (cls_pair ts)
theorem re_isi {a : Expr} {xa : CB} {x : Str} {p p2 pos : Pos} {t : TyN} {E : EX} (ok : SgOk X g E) (hg : Gl X "isinstance") (hm : X.mg "isinstance" = none) (ha : PE X a (rdB X.K E xa)) (hpl : plainE a = true) (ht : tyG g x = some t) :
    PE X (.Call (.Name "isinstance" p) [a, .Name x p2] [] pos) (rdV X.K E (cIsi xa [t])) :=
  (pe_callB call_isi hg hm PyProof.Rows.boot_isinstance (pa_cons ha (pa_cons (tyG_ok ok ht) pa_nil rfl) (plain_star hpl)) (by decide) (by decide) (plain_star hpl) rfl).imp fun σ H Q' ⟨F, ρ, Q, re, h, k⟩ => by
    refine ⟨F, ρ, _, re, h, fun v H1 F1 d g1 b1 q => ?_⟩
    cases hs : tyN d with
    | some s =>
      have q : Q (.bl ([t].any (subN s)), false) := by
        have q0 : isiM [t] d Q (E.at ρ) := q
        unfold isiM at q0
        rw [hs] at q0
        exact q0
      refine ⟨v, .ty t.s, .type s.s, .type t.s, subN s t, rfl, .ty _, tyX_of g1.fh b1 hs, kit_ty (kit_sub s t), ?_⟩
      have q' : Q (.bl (subN s t || false), false) := q
      rw [Bool.or_false] at q'
      exact k _ H1 F1 (.bl (subN s t), false) g1 (Val.of (.bl _)) q'
    | none =>
      have q0 : isiM [t] d Q (E.at ρ) := q
      unfold isiM at q0
      rw [hs] at q0
      exact (show False from q0).elim
theorem re_isiT {a : Expr} {xa : CB} {es : List Expr} {j : Nat} {p p2 pos : Pos} {ts : List TyN} {E : EX} (ok : SgOk X g E) (hg : Gl X "isinstance") (hm : X.mg "isinstance" = none) (ha : PE X a (rdB X.K E xa)) (hpl : plainE a = true) (ht : tysG g es = some ts) (hl : ts.length ≤ 10) :
    PE X (.Call (.Name "isinstance" p) [a, .Tuple es j p2] [] pos) (rdV X.K E (cIsi xa ts)) :=
  (pe_callB call_isiT hg hm PyProof.Rows.boot_isinstance (pa_cons ha (pa_cons (pe_tup (tysG_ok ok ht)) pa_nil rfl) (plain_star hpl)) (by decide) (by decide) (plain_star hpl) rfl).imp fun σ H Q' ⟨F, ρ, Q, re, h, k⟩ => by
    refine ⟨F, ρ, _, re, h, fun v H1 F1 d g1 b1 q => ⟨?_, fun T hT => ?_⟩⟩
    · rw [List.length_map]; exact Nat.le_trans hl (by decide)
    · cases hs : tyN d with
      | some s =>
        have q : Q (.bl (ts.any (subN s)), false) := by
          have q0 : isiM ts d Q (E.at ρ) := q
          unfold isiM at q0
          rw [hs] at q0
          exact q0
        have g2 := Grow.own g1.fh hT (.tup (ts.map fun t => V.ty t.s))
        refine ⟨v, T, _, .type s.s, _, _, rfl, upd_same, cls_pair ts, tyX_of g2.fh (b1.grow g2) hs, kit_any s ts, ?_⟩
        exact k _ _ F1 (.bl _, false) (g1.trans g2) (Val.of (.bl _)) q
      | none =>
        have q0 : isiM ts d Q (E.at ρ) := q
        unfold isiM at q0
        rw [hs] at q0
        exact (show False from q0).elim
end
def vIsi : VR := fun r g e => match e with
  | .Call (.Name x _) [a, .Name y _] [] _ => if (spB g x "isinstance" && plainE a) = true then match bOf r g a, tyG g y with
    | some c, some t => some (cIsi c [t])
    | _, _ => none else none
  | .Call (.Name x _) [a, .Tuple es _ _] [] _ => if (spB g x "isinstance" && plainE a) = true then match bOf r g a, tysG g es with
    | some c, some ts => if ts.length ≤ 10 then some (cIsi c ts) else none
    | _, _ => none else none
  | _ => none
theorem vIsi_ok : VrOk vIsi := by
  intro r R X g E e c ok h
  unfold vIsi at h
  split at h
  · split at h
    · rename_i hs
      rw [Bool.and_eq_true] at hs
      obtain ⟨rfl, q1, q2⟩ := spB_is ok hs.1
      split at h
      · cases h; exact re_isi ok q1 q2 (bOf_ok R ok ‹_›) hs.2 ‹_›
      · cases h
    · cases h
  · split at h
    · rename_i hs
      rw [Bool.and_eq_true] at hs
      obtain ⟨rfl, q1, q2⟩ := spB_is ok hs.1
      split at h
      · split at h
        · cases h; exact re_isiT ok q1 q2 (bOf_ok R ok ‹_›) hs.2 ‹_› ‹_›
        · cases h
      · cases h
    · cases h
  · cases h

/-! ### list(range(..)), tuple(range(..)) -/
def rgsM : List D → M (Int × Int)
  | [.int j] => fun Q _ => RgOk 0 j ∧ Q (0, j)
  | [.int i, .int j] => fun Q _ => RgOk i j ∧ Q (i, j)
  | _ => fail
def cLRg (tp : Bool) (l : CL) : CV := fun ρ => bnd (l ρ) fun ds => bnd (rgsM ds) fun ij => ret (if tp = true then .tup (upto ij.1 1 (ij.2 - ij.1).toNat) else .lst (upto ij.1 1 (ij.2 - ij.1).toNat), !tp)
theorem rgV_rep {K : PySem.W.Frag} {F : Hp} (i j : Int) : RepL K F (rgV i j) (upto i 1 (j - i).toNat) := by
  unfold rgV upto
  induction (List.range (j - i).toNat) with
  | nil => exact .nil
  | cons n ns ih =>
    rw [List.map_cons, List.map_cons, Int.mul_one]
    exact .cons (.int _) ih
section
variable {X : Cx} {E : EX} {a b : Expr} {p p2 pos pos2 : Pos} {xa xb : CB}
theorem rg_end {K : PySem.W.Frag} {F H F1 H1 : Hp} {Q : D × Bool → Prop} {Q' : VK} (k : ∀ v H' F' r, Grow F H F' H' → Val K F' H' H v r → Q r → Q' v H') (g1 : Grow F H F1 H1) (i j : Int) (q : Q (.lst (upto i 1 (j - i).toNat), true)) :
    ∀ z, H1 z = none → Q' (.ref z) (upd H1 z (.lst (rgV i j))) := fun z hz => new_own g1.fh (rgV_rep i j) q (fun v F' H' r g' v' q' => k v H' F' r (g1.trans g') (v'.back g1) q') z hz
theorem rg_endT {K : PySem.W.Frag} {F H F1 H1 : Hp} {Q : D × Bool → Prop} {Q' : VK} (k : ∀ v H' F' r, Grow F H F' H' → Val K F' H' H v r → Q r → Q' v H') (g1 : Grow F H F1 H1) (i j : Int) (q : Q (.tup (upto i 1 (j - i).toNat), false)) :
    ∀ z, H1 z = none → Q' (.ref z) (upd H1 z (.tup (rgV i j))) := fun z hz => new_tup g1.fh (rgV_rep i j) q (fun v F' H' r g' v' q' => k v H' F' r (g1.trans g') (v'.back g1) q') z hz
theorem re_lrg1 (hc : X.calm = true) (hg : Gl X "list") (hm : X.mg "list" = none) (hg2 : Gl X "range") (hm2 : X.mg "range" = none) (ha : PE X a (rdF X.K E xa)) (hpl : plainE a = true) :
    PE X (.Call (.Name "list" p) [.Call (.Name "range" p2) [a] [] pos2] [] pos) (rdV X.K E (cLRg false (cCons xa cNil))) :=
  (pe_listRg hc hg hm (prg_1 hg2 hm2 ha (plain_star hpl)) rfl).imp fun σ H Q' ⟨F, ρ, Q, re, h, k⟩ => ⟨F, ρ, _, re, h, fun v H1 F1 d g1 r1 q => by
    cases r1 with
    | int j => exact ⟨j, rfl, q.1, rg_end k g1 0 j q.2⟩
    | _ => exact (show False from q).elim⟩
theorem re_lrg2 (hc : X.calm = true) (hg : Gl X "list") (hm : X.mg "list" = none) (hg2 : Gl X "range") (hm2 : X.mg "range" = none) (ha : PE X a (rdF X.K E xa)) (hb : PE X b (rdF X.K E xb)) (hpl : plainE a = true) (hplb : plainE b = true) :
    PE X (.Call (.Name "list" p) [.Call (.Name "range" p2) [a, b] [] pos2] [] pos) (rdV X.K E (cLRg false (cCons xa (cCons xb cNil)))) :=
  (pe_listRg hc hg hm (prg_2 hg2 hm2 ha hb (plain_star hpl) (plain_star hplb) (plains_pl (es := [b]) (by rw [List.all_cons, hplb]; rfl))) rfl).imp fun σ H Q' ⟨F, ρ, Q, re, h, k⟩ => ⟨F, ρ, _, re, h, fun v H1 F1 d g1 r1 q =>
    ⟨F1, ρ, _, re.grow g1, q, fun w H2 F2 d2 g2 r2 q => by
      cases r1 with
      | int i => cases r2 with
        | int j => exact ⟨i, j, rfl, rfl, q.1, rg_end k (g1.trans g2) i j q.2⟩
        | _ => exact (show False from q).elim
      | _ => exact (show False from q).elim⟩⟩
theorem re_trg1 (hc : X.calm = true) (hg : Gl X "tuple") (hm : X.mg "tuple" = none) (hg2 : Gl X "range") (hm2 : X.mg "range" = none) (ha : PE X a (rdF X.K E xa)) (hpl : plainE a = true) :
    PE X (.Call (.Name "tuple" p) [.Call (.Name "range" p2) [a] [] pos2] [] pos) (rdV X.K E (cLRg true (cCons xa cNil))) :=
  (pe_tupRg hc hg hm (prg_1 hg2 hm2 ha (plain_star hpl)) rfl).imp fun σ H Q' ⟨F, ρ, Q, re, h, k⟩ => ⟨F, ρ, _, re, h, fun v H1 F1 d g1 r1 q => by
    cases r1 with
    | int j => exact ⟨j, rfl, q.1, rg_endT k g1 0 j q.2⟩
    | _ => exact (show False from q).elim⟩
end
def tyB (g : Sg) (x y : Str) (T : String) : Bool := decide (x = y) && globB g x && (match g.gl.lookup x with | some (.ty T' _) => decide (T' = T) | _ => false)
theorem tyB_is {X : Cx} {g : Sg} {E : EX} (ok : SgOk X g E) {x y : Str} {T : String} (h : tyB g x y T = true) : x = y ∧ Gl X y ∧ X.mg y = none := by
  unfold tyB at h
  rw [Bool.and_eq_true, Bool.and_eq_true] at h
  obtain ⟨⟨h1, h2⟩, h3⟩ := h
  have h1 := of_decide_eq_true h1
  subst h1
  refine ⟨rfl, (globB_is ok h2).1, ?_⟩
  split at h3
  · rename_i hl; exact (ok.gl _ _ hl).1
  · cases h3
def vLRg : VR := fun r g e => match e with
  | .Call (.Name x _) [.Call (.Name y _) [a] [] _] [] _ => if spB g y "range" && plainE a then
      if tyB g x "list" "list" = true then (fOf r g a).map fun c => cLRg false (cCons c cNil)
      else if tyB g x "tuple" "tuple" = true then (fOf r g a).map fun c => cLRg true (cCons c cNil) else none
    else none
  | .Call (.Name x _) [.Call (.Name y _) [a, b] [] _] [] _ => if spB g y "range" && tyB g x "list" "list" && plainE a && plainE b then match fOf r g a, fOf r g b with
    | some c, some d => some (cLRg false (cCons c (cCons d cNil)))
    | _, _ => none else none
  | _ => none
theorem vLRg_ok : VrOk vLRg := by
  intro r R X g E e c ok h
  unfold vLRg at h
  split at h
  · split at h
    · rename_i hs
      rw [Bool.and_eq_true] at hs
      obtain ⟨rfl, q1, q2⟩ := spB_is ok hs.1
      split at h
      · rename_i ht
        obtain ⟨rfl, q3, q4⟩ := tyB_is ok ht
        obtain ⟨d, h1, rfl⟩ := map_some h
        exact re_lrg1 ok.calm q3 q4 q1 q2 (fOf_ok R ok h1) hs.2
      · split at h
        · rename_i ht
          obtain ⟨rfl, q3, q4⟩ := tyB_is ok ht
          obtain ⟨d, h1, rfl⟩ := map_some h
          exact re_trg1 ok.calm q3 q4 q1 q2 (fOf_ok R ok h1) hs.2
        · cases h
    · cases h
  · split at h
    · rename_i hs
      rw [Bool.and_eq_true, Bool.and_eq_true, Bool.and_eq_true] at hs
      obtain ⟨⟨⟨hs1, hs2⟩, hs3⟩, hs4⟩ := hs
      obtain ⟨rfl, q1, q2⟩ := spB_is ok hs1
      obtain ⟨rfl, q3, q4⟩ := tyB_is ok hs2
      split at h
      · cases h
        exact re_lrg2 ok.calm q3 q4 q1 q2 (fOf_ok R ok ‹_›) (fOf_ok R ok ‹_›) hs3 hs4
      · cases h
    · cases h
  · cases h
end DL
namespace DL
open PySem L2 PySem.W

/-! ### the least, the greatest, of data -/
def bestM (f : PyData → List PyData → PyData) (ds : List D) : M (D × Bool) := fun Q _ => match pyL ds with
  | some (p :: ps) => (AlikeAll (p :: ps) ∧ PyData.depthAll (p :: ps) ≤ 50 ∧ PyData.canLayAll0 (p :: ps) = true) ∧ ∀ d, d ∈ ds → d.py = some (f p ps) → Q (d, false)
  | _ => False
theorem pyL_at : ∀ {ds : List D} {ps : List PyData} {i : Nat} {d : D}, pyL ds = some ps → ds[i]? = some d → ∃ p, d.py = some p ∧ ps[i]? = some p
  | [], _, _, _, _, e => by simp at e
  | d :: ds, ps, i, z, h, e => by
    simp only [pyL] at h
    cases q : D.py d with
    | none => rw [q] at h; simp at h
    | some p =>
      cases q2 : pyL ds with
      | none => rw [q, q2] at h; simp at h
      | some ps' =>
        rw [q, q2] at h
        simp only [Option.some.injEq] at h
        subst h
        cases i with
        | zero => simp at e; subst e; exact ⟨p, q, rfl⟩
        | succ i => obtain ⟨p2, h1, h2⟩ := pyL_at (i := i) (d := z) q2 (by simpa using e); exact ⟨p2, h1, by simpa using h2⟩
theorem best_item {X : Cx} {pins : List (Addr × Obj)} {σ : L2.St} {F H : Hp} {s : Shared} {vs : List V} {ds : List D} {ps : List PyData} {its : List Value} {i : Nat} {u : Value} {h' : Heap} {tk : Nat} {bs : List Addr} {p : PyData} {Q : D × Bool → Prop} {Q' : VK}
    (I : Inv X pins σ H s) (sm : Same F H) (rv : Vals vs its) (r : RepL X.K F vs ds) (e : pyL ds = some ps) (lay : PyData.canLayAll0 ps = true) (hu : its[i]? = some u) (rd : Reads h' u p bs) (hk : ∀ b o, s.heap.get? b = some o → h'.get? b = some o)
    (q : ∀ d, d ∈ ds → d.py = some p → Q (d, false)) (k : ∀ v F' H' r, Grow F H F' H' → Val X.K F' H' H v r → Q r → Q' v H') : EP X pins σ Q' u { s with heap := h', toks := tk } := by
  have hi : i < vs.length := by rw [rv.length]; exact lt_of_at hu
  obtain ⟨u', hu', ru⟩ := rv.get (List.getElem?_eq_getElem hi)
  rw [hu] at hu'
  cases hu'
  obtain ⟨d, hd, rp⟩ := r.getV (List.getElem?_eq_getElem hi)
  obtain ⟨p', hp, hps⟩ := pyL_at e hd
  have I1 : Inv X pins σ H { s with heap := h', toks := tk } := I.kept hk
  obtain ⟨as, rd2⟩ := Dp.reads I1 p' _ _ ((rp.mono sm).dp hp) ru
  have lay' : ∀ {ps : List PyData} {i : Nat}, PyData.canLayAll0 ps = true → ps[i]? = some p' → p'.canLay0 = true := by
    intro ps
    induction ps with
    | nil => intro i _ h; simp at h
    | cons a r ih =>
      intro i h1 h2
      rw [PyData.canLayAll0, Bool.and_eq_true] at h1
      cases i with
      | zero => simp at h2; subst h2; exact h1.1
      | succ i => exact ih h1.2 (by simpa using h2)
  have ep := SeqAt.Reads.unique _ _ _ _ _ (lay' lay hps) rd2 rd
  subst ep
  exact ⟨_, H, I1, ru, k _ F H (d, false) (Grow.refl sm) (Val.of rp) (q d (List.mem_of_getElem? hd) hp)⟩
theorem foldl_top : ∀ (l : List Int) (a : Int), topI a l = l.foldl max a
  | [], _ => rfl
  | b :: r, a => by
    unfold topI
    rw [List.foldl_cons, foldl_top r]
    have : (if a < b then b else a) = max a b := by
      split <;> omega
    rw [this]
theorem foldl_low : ∀ (l : List Int) (a : Int), lowI a l = l.foldl min a
  | [], _ => rfl
  | b :: r, a => by
    unfold lowI
    rw [List.foldl_cons, foldl_low r]
    have : (if b < a then b else a) = min a b := by
      split <;> omega
    rw [this]
theorem pyL_ints : ∀ {ds : List D} {ns : List Int}, intsD ds = some ns → pyL ds = some (ns.map PyData.int) ∧ ds = ns.map D.int
  | [], _, h => by cases h; exact ⟨rfl, rfl⟩
  | .int i :: ds, ns, h => by
    simp only [intsD] at h
    cases q : intsD ds with
    | none => rw [q] at h; cases h
    | some ms =>
      rw [q] at h
      simp only [Option.map_some, Option.some.injEq] at h
      subst h
      obtain ⟨h1, h2⟩ := pyL_ints q
      exact ⟨by simp only [pyL, D.py, h1, List.map_cons], by rw [List.map_cons, ← h2]⟩
  | .non :: _, _, h | .bl _ :: _, _, h | .str _ :: _, _, h | .lst _ :: _, _, h | .tup _ :: _, _, h | .dct _ :: _, _, h | .obj _ _ :: _, _, h | .exn _ _ :: _, _, h | .raw _ :: _, _, h | .gen :: _, _, h | .scr _ :: _, _, h => by simp [intsD] at h
theorem alike_ints (ns : List Int) : AlikeAll (ns.map PyData.int) := by
  refine ⟨fun x hx y hy => ?_, fun x hx => ?_⟩
  · obtain ⟨i, _, rfl⟩ := List.mem_map.mp hx
    obtain ⟨j, _, rfl⟩ := List.mem_map.mp hy
    rfl
  · obtain ⟨i, _, rfl⟩ := List.mem_map.mp hx
    intro z; cases z
theorem depth_ints : ∀ ns : List Int, PyData.depthAll (ns.map PyData.int) ≤ 1
  | [] => by simp [PyData.depthAll]
  | n :: ns => by
    have := depth_ints ns
    simp only [List.map_cons, PyData.depthAll, PyData.depth]
    omega
theorem lay_ints : ∀ ns : List Int, PyData.canLayAll0 (ns.map PyData.int) = true
  | [] => rfl
  | n :: ns => by simp only [List.map_cons, PyData.canLayAll0, PyData.canLay0, lay_ints ns]; rfl
/-- a non-empty list's greatest (least): of ints by their order, else by the order of data -/
def bestI (gt : Bool) (ds : List D) : M (D × Bool) := fun Q E => match intsD ds with
  | some (a :: r) => Q (.int (if gt = true then topI a r else lowI a r), false)
  | some [] => False
  | none => bestM (if gt = true then maxD else minD) ds Q E
theorem bestI_M {gt : Bool} {ds : List D} {Q : D × Bool → Prop} {E : Xn → Prop} (h : bestI gt ds Q E) : bestM (if gt = true then maxD else minD) ds Q E := by
  unfold bestI at h
  split at h
  · rename_i a r e
    obtain ⟨h1, h2⟩ := pyL_ints e
    unfold bestM
    rw [h1, List.map_cons]
    refine ⟨⟨alike_ints (a :: r), Nat.le_trans (depth_ints (a :: r)) (by decide), lay_ints (a :: r)⟩, fun d hd hp => ?_⟩
    subst h2
    obtain ⟨i, _, rfl⟩ := List.mem_map.mp hd
    have hp : some (PyData.int i) = some ((if gt = true then maxD else minD) (.int a) (r.map PyData.int)) := hp
    cases gt with
    | true =>
      rw [if_pos rfl] at h hp
      rw [maxD_ints, ← foldl_top] at hp
      cases hp
      exact h
    | false =>
      rw [if_neg Bool.false_ne_true] at h hp
      rw [minD_ints, ← foldl_low] at hp
      cases hp
      exact h
  · exact h.elim
  · exact h
def bestsM (gt : Bool) : List D → M (D × Bool)
  | [.lst ds] => bestI gt ds
  | [.tup ds] => bestI gt ds
  | [.int i, .int j] => ret (.int (if gt = true then (if j > i then j else i) else (if j < i then j else i)), false)
  | _ => fail
def bestDM (gt : Bool) (d0 : D) : List D → M (D × Bool)
  | [.lst []] => ret (d0, false)
  | [.tup []] => ret (d0, false)
  | [.lst (d :: ds)] => bestI gt (d :: ds)
  | [.tup (d :: ds)] => bestI gt (d :: ds)
  | _ => fail
section
variable {X : Cx}
theorem bestM_some {f : PyData → List PyData → PyData} {ds : List D} {Q : D × Bool → Prop} {E : Xn → Prop} (h : bestM f ds Q E) : ∃ p ps, pyL ds = some (p :: ps) ∧ (AlikeAll (p :: ps) ∧ PyData.depthAll (p :: ps) ≤ 50 ∧ PyData.canLayAll0 (p :: ps) = true) ∧ ∀ d, d ∈ ds → d.py = some (f p ps) → Q (d, false) := by
  unfold bestM at h
  split at h
  · exact ⟨_, _, by assumption, h⟩
  · exact h.elim
theorem b_max2 (hu : X.A.units + 110 < cLine) (hc : X.calm = true) : CallR X (.builtin "max") (rcM X.K (bestsM true)) := by
  intro pins s σ H xs us Q I r h
  obtain ⟨F, ds, Q2, E, sm, b, h, k⟩ := h
  unfold bestsM at h
  split at h
  · obtain ⟨v, rfl, b1⟩ := b.one
    obtain ⟨a, vs, rfl, ha, ra⟩ := b1.lst sm
    obtain ⟨p, ps, e, ⟨al, dp, lay⟩, q⟩ := bestM_some (bestI_M h)
    obtain ⟨its, rv, pl, hz⟩ := I.list (SqL.of ha)
    obtain ⟨as, rd⟩ := Dp.readsAll I _ _ _ ((ra.mono sm).dp e) rv
    obtain ⟨u, rfl, ru⟩ := Vals.one r
    cases ru
    exact max_list_data (I.ok.hd hc) pl.isList (by simpa using rd) al (by omega) fun i v h' tk bs hv hr hk => best_item I sm rv ra e lay (by simpa using hv) hr hk q k
  · obtain ⟨v, rfl, b1⟩ := b.one
    obtain ⟨a, vs, rfl, ha, ra⟩ := b1.tup sm
    obtain ⟨p, ps, e, ⟨al, dp, lay⟩, q⟩ := bestM_some (bestI_M h)
    obtain ⟨its, rv, pl, hz⟩ := I.tuple ha
    obtain ⟨as, rd⟩ := Dp.readsAll I _ _ _ ((ra.mono sm).dp e) rv
    obtain ⟨u, rfl, ru⟩ := Vals.one r
    cases ru
    exact max_tuple_data (I.ok.hd hc) (show s.heap.IsTuple a its.toArray from pl) (by simpa using rd) al (by omega) fun i v h' tk bs hv hr hk => best_item I sm rv ra e lay (by simpa using hv) hr hk q k
  · obtain ⟨v, u, rfl, b1, b2⟩ := b.two
    cases b1.int; cases b2.int
    exact call_max2 hc pins s σ H _ us Q I r ⟨_, _, rfl, k _ F H _ (Grow.refl sm) (Val.of (.int _)) h⟩
  · exact h.elim
theorem b_min2 (hu : X.A.units + 110 < cLine) (hc : X.calm = true) : CallR X (.builtin "min") (rcM X.K (bestsM false)) := by
  intro pins s σ H xs us Q I r h
  obtain ⟨F, ds, Q2, E, sm, b, h, k⟩ := h
  unfold bestsM at h
  split at h
  · obtain ⟨v, rfl, b1⟩ := b.one
    obtain ⟨a, vs, rfl, ha, ra⟩ := b1.lst sm
    obtain ⟨p, ps, e, ⟨al, dp, lay⟩, q⟩ := bestM_some (bestI_M h)
    obtain ⟨its, rv, pl, hz⟩ := I.list (SqL.of ha)
    obtain ⟨as, rd⟩ := Dp.readsAll I _ _ _ ((ra.mono sm).dp e) rv
    obtain ⟨u, rfl, ru⟩ := Vals.one r
    cases ru
    exact min_list_data (I.ok.hd hc) pl.isList (by simpa using rd) al (by omega) fun i v h' tk bs hv hr hk => best_item I sm rv ra e lay (by simpa using hv) hr hk q k
  · obtain ⟨v, rfl, b1⟩ := b.one
    obtain ⟨a, vs, rfl, ha, ra⟩ := b1.tup sm
    obtain ⟨p, ps, e, ⟨al, dp, lay⟩, q⟩ := bestM_some (bestI_M h)
    obtain ⟨its, rv, pl, hz⟩ := I.tuple ha
    obtain ⟨as, rd⟩ := Dp.readsAll I _ _ _ ((ra.mono sm).dp e) rv
    obtain ⟨u, rfl, ru⟩ := Vals.one r
    cases ru
    exact min_tuple_data (I.ok.hd hc) (show s.heap.IsTuple a its.toArray from pl) (by simpa using rd) al (by omega) fun i v h' tk bs hv hr hk => best_item I sm rv ra e lay (by simpa using hv) hr hk q k
  · obtain ⟨v, u, rfl, b1, b2⟩ := b.two
    cases b1.int; cases b2.int
    exact call_min2 hc pins s σ H _ us Q I r ⟨_, _, rfl, k _ F H _ (Grow.refl sm) (Val.of (.int _)) h⟩
  · exact h.elim
/-- max(x, default = d), min(..) -/
def rBD (K : PySem.W.Frag) (gt : Bool) : List V → List V → Hp → VK → Prop := fun vs zs H Q => ∃ F ds d0 Q2 E, Same F H ∧ BorL K F H vs ds ∧ RepL K F zs [d0] ∧ bestDM gt d0 ds Q2 E ∧ ∀ v F' H' r, Grow F H F' H' → Val K F' H' H v r → Q2 r → Q v H'
theorem ck_max (hu : X.A.units + 110 < cLine) (hc : X.calm = true) : CallRK X (.builtin "max") ["default"] (rBD X.K true) := by
  intro pins s σ H xs zs us ws Q I r rz h
  obtain ⟨F, ds, d0, Q2, E, sm, b, rd0, h, k⟩ := h
  obtain ⟨z, rfl⟩ : ∃ z, zs = [z] := len1 rd0.length
  obtain ⟨_, e0, rz0⟩ := rd0.one
  cases e0
  obtain ⟨w, rfl, rw1⟩ := Vals.one rz
  have dflt : Q2 (d0, false) → ∀ h' tk, (∀ b o, s.heap.get? b = some o → h'.get? b = some o) → EP X pins σ Q w { s with heap := h', toks := tk } := fun q h' tk hk => ⟨z, H, I.kept hk, rw1, k z F H (d0, false) (Grow.refl sm) (Val.of rz0) q⟩
  unfold bestDM at h
  split at h
  · obtain ⟨v, rfl, b1⟩ := b.one
    obtain ⟨a, vs, rfl, ha, ra⟩ := b1.lst sm
    cases ra
    obtain ⟨its, rv, pl, hz⟩ := I.list (SqL.of ha)
    cases rv
    obtain ⟨u, rfl, ru⟩ := Vals.one r
    cases ru
    exact max_list_default (xs := []) (I.ok.hd hc) pl.isList .nil (alike_ints []) (by simp only [PyData.depthAll]; omega) (fun _ => dflt h) fun y ys i v h' tk bs e => by cases e
  · obtain ⟨v, rfl, b1⟩ := b.one
    obtain ⟨a, vs, rfl, ha, ra⟩ := b1.tup sm
    cases ra
    obtain ⟨its, rv, pl, hz⟩ := I.tuple ha
    cases rv
    obtain ⟨u, rfl, ru⟩ := Vals.one r
    cases ru
    exact max_tuple_default (xs := []) (I.ok.hd hc) (show s.heap.IsTuple a #[] from pl) .nil (alike_ints []) (by simp only [PyData.depthAll]; omega) (fun _ => dflt h) fun y ys i v h' tk bs e => by cases e
  · obtain ⟨v, rfl, b1⟩ := b.one
    obtain ⟨a, vs, rfl, ha, ra⟩ := b1.lst sm
    obtain ⟨p, ps, e, ⟨al, dp, lay⟩, q⟩ := bestM_some (bestI_M h)
    obtain ⟨its, rv, pl, hz⟩ := I.list (SqL.of ha)
    obtain ⟨as, rd⟩ := Dp.readsAll I _ _ _ ((ra.mono sm).dp e) rv
    obtain ⟨u, rfl, ru⟩ := Vals.one r
    cases ru
    exact max_list_default (I.ok.hd hc) pl.isList (by simpa using rd) al (by omega) (fun e => by cases e) fun y ys i v h' tk bs e2 hv hr hk => by cases e2; exact best_item I sm rv ra e lay (by simpa using hv) hr hk q k
  · obtain ⟨v, rfl, b1⟩ := b.one
    obtain ⟨a, vs, rfl, ha, ra⟩ := b1.tup sm
    obtain ⟨p, ps, e, ⟨al, dp, lay⟩, q⟩ := bestM_some (bestI_M h)
    obtain ⟨its, rv, pl, hz⟩ := I.tuple ha
    obtain ⟨as, rd⟩ := Dp.readsAll I _ _ _ ((ra.mono sm).dp e) rv
    obtain ⟨u, rfl, ru⟩ := Vals.one r
    cases ru
    exact max_tuple_default (I.ok.hd hc) (show s.heap.IsTuple a its.toArray from pl) (by simpa using rd) al (by omega) (fun e => by cases e) fun y ys i v h' tk bs e2 hv hr hk => by cases e2; exact best_item I sm rv ra e lay (by simpa using hv) hr hk q k
  · exact h.elim
theorem ck_min (hu : X.A.units + 110 < cLine) (hc : X.calm = true) : CallRK X (.builtin "min") ["default"] (rBD X.K false) := by
  intro pins s σ H xs zs us ws Q I r rz h
  obtain ⟨F, ds, d0, Q2, E, sm, b, rd0, h, k⟩ := h
  obtain ⟨z, rfl⟩ : ∃ z, zs = [z] := len1 rd0.length
  obtain ⟨_, e0, rz0⟩ := rd0.one
  cases e0
  obtain ⟨w, rfl, rw1⟩ := Vals.one rz
  have dflt : Q2 (d0, false) → ∀ h' tk, (∀ b o, s.heap.get? b = some o → h'.get? b = some o) → EP X pins σ Q w { s with heap := h', toks := tk } := fun q h' tk hk => ⟨z, H, I.kept hk, rw1, k z F H (d0, false) (Grow.refl sm) (Val.of rz0) q⟩
  unfold bestDM at h
  split at h
  · obtain ⟨v, rfl, b1⟩ := b.one
    obtain ⟨a, vs, rfl, ha, ra⟩ := b1.lst sm
    cases ra
    obtain ⟨its, rv, pl, hz⟩ := I.list (SqL.of ha)
    cases rv
    obtain ⟨u, rfl, ru⟩ := Vals.one r
    cases ru
    exact min_list_default (xs := []) (I.ok.hd hc) pl.isList .nil (alike_ints []) (by simp only [PyData.depthAll]; omega) (fun _ => dflt h) fun y ys i v h' tk bs e => by cases e
  · obtain ⟨v, rfl, b1⟩ := b.one
    obtain ⟨a, vs, rfl, ha, ra⟩ := b1.tup sm
    cases ra
    obtain ⟨its, rv, pl, hz⟩ := I.tuple ha
    cases rv
    obtain ⟨u, rfl, ru⟩ := Vals.one r
    cases ru
    exact min_tuple_default (xs := []) (I.ok.hd hc) (show s.heap.IsTuple a #[] from pl) .nil (alike_ints []) (by simp only [PyData.depthAll]; omega) (fun _ => dflt h) fun y ys i v h' tk bs e => by cases e
  · obtain ⟨v, rfl, b1⟩ := b.one
    obtain ⟨a, vs, rfl, ha, ra⟩ := b1.lst sm
    obtain ⟨p, ps, e, ⟨al, dp, lay⟩, q⟩ := bestM_some (bestI_M h)
    obtain ⟨its, rv, pl, hz⟩ := I.list (SqL.of ha)
    obtain ⟨as, rd⟩ := Dp.readsAll I _ _ _ ((ra.mono sm).dp e) rv
    obtain ⟨u, rfl, ru⟩ := Vals.one r
    cases ru
    exact min_list_default (I.ok.hd hc) pl.isList (by simpa using rd) al (by omega) (fun e => by cases e) fun y ys i v h' tk bs e2 hv hr hk => by cases e2; exact best_item I sm rv ra e lay (by simpa using hv) hr hk q k
  · obtain ⟨v, rfl, b1⟩ := b.one
    obtain ⟨a, vs, rfl, ha, ra⟩ := b1.tup sm
    obtain ⟨p, ps, e, ⟨al, dp, lay⟩, q⟩ := bestM_some (bestI_M h)
    obtain ⟨its, rv, pl, hz⟩ := I.tuple ha
    obtain ⟨as, rd⟩ := Dp.readsAll I _ _ _ ((ra.mono sm).dp e) rv
    obtain ⟨u, rfl, ru⟩ := Vals.one r
    cases ru
    exact min_tuple_default (I.ok.hd hc) (show s.heap.IsTuple a its.toArray from pl) (by simpa using rd) al (by omega) (fun e => by cases e) fun y ys i v h' tk bs e2 hv hr hk => by cases e2; exact best_item I sm rv ra e lay (by simpa using hv) hr hk q k
  · exact h.elim
def cBest (gt : Bool) (l : CL) (dc : CB) : CV := fun ρ => bnd (l ρ) fun ds => bnd (dc ρ) fun d0 => bestDM gt d0 ds
theorem bd_imp {E : EX} {gt : Bool} {cl : CL} {dc : CB} {σ : L2.St} {H : Hp} {Q' : VK} (h : rdV X.K E (cBest gt cl dc) σ H Q') : tCKw (rBD X.K gt) (rdM X.K E cl) (tCons (rdF X.K E dc) tNil) σ H Q' := by
  obtain ⟨F, ρ, Q, re, h, k⟩ := h
  exact ⟨F, ρ, _, re, h, fun vs H1 F1 ds g1 b1 q => ⟨F1, ρ, _, re.grow g1, q, fun z H2 F2 d0 g2 r2 q2 =>
    ⟨F2, ds, d0, Q, _, g2.fh, b1.grow g2, .cons r2 .nil, q2, fun v F' H' r g' v' q' => k v H' F' r ((g1.trans g2).trans g') (v'.back (g1.trans g2)) q'⟩⟩⟩
end
def vBest : VR := fun r g e => match e with
  | .Call (.Name x _) [a] [⟨some kn, d, _⟩] _ => if kn = ("default" : Str) ∧ plainE a = true ∧ globB g x = true then match g.gl.lookup x with
    | some (.bi id _) => if id = "max" then match mOf r g [a], fOf r g d with
        | some l, some c => some (cBest true l c)
        | _, _ => none
      else if id = "min" then match mOf r g [a], fOf r g d with
        | some l, some c => some (cBest false l c)
        | _, _ => none
      else none
    | _ => none else none
  | _ => none
theorem vBest_ok : VrOk vBest := by
  intro r R X g E e c ok h
  unfold vBest at h
  split at h
  · split at h
    · rename_i hs
      obtain ⟨rfl, hp, hg⟩ := hs
      obtain ⟨q1, q2⟩ := globB_is ok hg
      split at h
      · rename_i id m hl
        obtain ⟨hm, hv, hn, _⟩ := ok.gl _ _ hl
        split at h
        · rename_i hid
          subst hid
          split at h
          · rename_i h1 h2
            cases h
            exact (pe_callBK (ck_max ok.un ok.calm) q1 hm hv (mOf_ok R ok h1).1 (pk_cons (fOf_ok R ok h2) pk_nil) hn q2 (by rw [plain_star hp]; rfl) (by rw [plain_star hp]; rfl)).imp fun σ H Q' h => bd_imp h
          · cases h
        · split at h
          · rename_i hid
            subst hid
            split at h
            · rename_i h1 h2
              cases h
              exact (pe_callBK (ck_min ok.un ok.calm) q1 hm hv (mOf_ok R ok h1).1 (pk_cons (fOf_ok R ok h2) pk_nil) hn q2 (by rw [plain_star hp]; rfl) (by rw [plain_star hp]; rfl)).imp fun σ H Q' h => bd_imp h
            · cases h
          · cases h
      · cases h
    · cases h
  · cases h

/-! ### dict(pairs) -/
def kvsD : List D → Option (List (Key × D))
  | [] => some []
  | .tup [k, v] :: r => match keyD k, kvsD r with
    | some k, some l => some ((k, v) :: l)
    | _, _ => none
  | _ :: _ => none
def putG (kvs : List (Key × D)) (k : Key) (v : D) : List (Key × D) :=
  if (kvs.any fun kv => decide (kv.1 = k)) = true then kvs.map (fun kv => if kv.1 = k then (kv.1, v) else kv) else kvs ++ [(k, v)]
def mergeG (kvs more : List (Key × D)) : List (Key × D) := more.foldl (fun acc kv => putG acc kv.1 kv.2) kvs
def unK (l : List (Key × D)) : List (D × D) := l.map fun p => (kD p.1, p.2)
inductive RepP (K : PySem.W.Frag) (H : Hp) : List (Key × V) → List (Key × D) → Prop
  | nil : RepP K H [] []
  | cons {k : Key} {v : V} {d : D} {ks : List (Key × V)} {ds : List (Key × D)} : Rep K H v d → RepP K H ks ds → RepP K H ((k, v) :: ks) ((k, d) :: ds)
section
variable {K : PySem.W.Frag} {H : Hp}
theorem RepP.rep : ∀ {ks : List (Key × V)} {ds : List (Key × D)}, RepP K H ks ds → RepK K H ks (unK ds)
  | _, _, .nil => .nil
  | _, _, .cons r t => .cons r (RepP.rep t)
theorem RepP.any {k : Key} : ∀ {ks : List (Key × V)} {ds : List (Key × D)}, RepP K H ks ds → (ks.any fun kv => decide (kv.1 = k)) = ds.any fun kv => decide (kv.1 = k)
  | _, _, .nil => rfl
  | _, _, .cons r t => by rw [List.any_cons, List.any_cons, RepP.any t]
theorem RepP.map {k : Key} {v : V} {d : D} (q : Rep K H v d) : ∀ {ks : List (Key × V)} {ds : List (Key × D)}, RepP K H ks ds → RepP K H (ks.map fun kv => if kv.1 = k then (kv.1, v) else kv) (ds.map fun kv => if kv.1 = k then (kv.1, d) else kv)
  | _, _, .nil => .nil
  | _, _, .cons (k := k') r t => by
    rw [List.map_cons, List.map_cons]
    by_cases e : k' = k
    · rw [if_pos e, if_pos e]; exact .cons q (RepP.map q t)
    · rw [if_neg e, if_neg e]; exact .cons r (RepP.map q t)
theorem RepP.app {k : Key} {v : V} {d : D} (q : Rep K H v d) : ∀ {ks : List (Key × V)} {ds : List (Key × D)}, RepP K H ks ds → RepP K H (ks ++ [(k, v)]) (ds ++ [(k, d)])
  | _, _, .nil => .cons q .nil
  | _, _, .cons r t => .cons r (RepP.app q t)
theorem RepP.put {k : Key} {v : V} {d : D} (q : Rep K H v d) {ks : List (Key × V)} {ds : List (Key × D)} (r : RepP K H ks ds) : RepP K H (putK ks k v) (putG ds k d) := by
  unfold putK putG
  rw [r.any]
  split
  · exact r.map q
  · exact r.app q
theorem RepP.merge : ∀ {ms : List (Key × V)} {md : List (Key × D)} {ks : List (Key × V)} {ds : List (Key × D)}, RepP K H ms md → RepP K H ks ds → RepP K H (mergeK ks ms) (mergeG ds md)
  | _, _, _, _, .nil, r => r
  | (k, v) :: ms, (_, d) :: md, ks, ds, .cons q t, r => (show RepP K H (mergeK (putK ks k v) ms) (mergeG (putG ds k d) md) from RepP.merge t (r.put q))
theorem key_is {k : D} {y : Key} {v : V} (r : Rep K H v k) (h : keyD k = some y) : v = kV y := by
  cases k <;> cases h
  all_goals (cases r; rfl)
theorem kvs_is : ∀ {ds : List D} {vs : List V} {kvs : List (Key × D)}, RepL K H vs ds → kvsD ds = some kvs → ∃ (ps : List Addr) (ks : List (Key × V)), vs = ps.map V.ref ∧ Paired (fun p kv => SqT K H p [kV kv.1, kv.2]) ps ks ∧ RepP K H ks kvs
  | [], _, _, .nil, h => by cases h; exact ⟨[], [], rfl, .nil, .nil⟩
  | d :: ds, v :: vs, kvs, .cons r t, h => by
    unfold kvsD at h
    split at h
    · cases ‹_ :: _ = []›
    · rename_i k x rest he
      cases he
      split at h
      · rename_i y l hk hl
        cases h
        obtain ⟨ps, ks, rfl, h2, h3⟩ := kvs_is t hl
        cases r with
        | tup h1 rr =>
          rename_i a ws
          cases rr with
          | cons rk rr =>
            cases rr with
            | cons rv rr =>
              cases rr
              have ek := key_is rk hk
              subst ek
              exact ⟨_ :: ps, (y, _) :: ks, rfl, .cons h1 h2, .cons rv h3⟩
      · cases h
    · cases h
end
theorem paired_imp {α β : Type} {R S : α → β → Prop} (h : ∀ a b, R a b → S a b) : ∀ {as : List α} {bs : List β}, Paired R as bs → Paired S as bs
  | _, _, .nil => .nil
  | _, _, .cons r t => .cons (h _ _ r) (paired_imp h t)
def dictM : List D → M (D × Bool)
  | [.lst ds] => fun Q _ => match kvsD ds with
    | some kvs => Q (.dct (unK (mergeG [] kvs)), true)
    | none => False
  | _ => fail
theorem b_dict {X : Cx} (hc : X.calm = true) : CallR X (.type "dict") (rcM X.K dictM) := by
  intro pins s σ H xs us Q I r h
  obtain ⟨F, ds, Q2, E, sm, b, h, k⟩ := h
  unfold dictM at h
  split at h
  · obtain ⟨v, rfl, b1⟩ := b.one
    obtain ⟨a, vs, rfl, ha, ra⟩ := b1.lst sm
    split at h
    · rename_i kvs e
      obtain ⟨ps, ks, rfl, h2, h3⟩ := kvs_is ra e
      refine call_dictP hc pins s σ H _ us Q I r ⟨a, ps, ks, rfl, SqL.of ha, ?_, fun p hp => ?_⟩
      · exact paired_imp (fun p kv q => sqT_same sm q) h2
      · refine k _ F _ _ (Grow.own sm hp _) (Val.own (d := .dct (unK (mergeG [] kvs))) hp (sm.free hp) ?_) h
        exact ⟨_, upd_same, (RepP.merge h3 .nil).rep⟩
    · exact h.elim
  · exact h.elim
end DL
namespace DL
open PySem L2

/-! ### the state told otherwise -/
def Rlx (X : Cx) (H H' : Hp) : Prop := ∀ (pins : List (Addr × Obj)) (σ : L2.St) (s : Shared), Inv X pins σ H s → Inv X pins σ H' s
theorem pss_post {X : Cx} {st : List Stmt} {t : TS} (h : PSs X st t) : PSs X st (fun D σ H => t { D with rt := fun v H' => ∃ H'', Rlx X H' H'' ∧ D.rt v H'' } σ H) := by
  refine ⟨fun pins s σ H D I hw => thn (h.run pins s σ H _ I hw) fun fl s' q => ?_⟩
  cases fl with
  | next => exact q
  | brk => exact q
  | cont => exact q
  | ret u => obtain ⟨v, σ', H', I', r, H'', q1, q2⟩ := q; exact ⟨v, σ', H'', q1 _ _ _ I', r, q2⟩
structure GenV (i m : Int) (cells : List Int) : Prop where
  i0 : 0 ≤ i
  m0 : 0 ≤ m
  m1 : m < 2147483647
  ne : cells ≠ []
  pos : ∀ x ∈ cells, 0 ≤ x
  len : cells.length ≤ 63
theorem vals3 {a b c : V} {us : List Value} (r : Vals [a, b, c] us) : ∃ x y z, us = [x, y, z] ∧ RelV a x ∧ RelV b y ∧ RelV c z := by
  cases r with | cons r1 r => cases r with | cons r2 r => cases r with | cons r3 r => cases r; exact ⟨_, _, _, rfl, r1, r2, r3⟩
theorem rlx_close {X : Cx} {H : Hp} {g c : Addr} {i m : Int} {cells : List Int} (hg : H g = some (.lst [.ref c, .int i, .int m])) (hc : H c = some (.lst (cells.map V.int))) (ne : g ≠ c) (v : GenV i m cells) :
    Rlx X H (upd (upd H g (.ext (genO g c))) c (.ext (cellsO c))) := by
  intro pins σ s I
  have og := I.hok g _ hg
  obtain ⟨_, its, n, rv, e⟩ := og
  obtain ⟨x, y, z, rfl, r1, r2, r3⟩ := vals3 rv
  cases r1
  obtain ⟨t, rfl⟩ := r2
  obtain ⟨u, rfl⟩ := r3
  have I1 : Inv X pins σ (upd H g (.ext (genO g c))) s := I.write (x := g) (e := g) (o := .ext (genO g c)) (t' := s.toks) (h' := s.heap) (by rw [hg]; trivial) (.inl rfl) (fun b u _ q => q) ⟨_, e⟩
    ⟨⟨i, m, t, u, n, v.i0, v.m0, v.m1, e⟩, ⟨_, e⟩, fun h1 h2 ⟨i, m, t, u, n, a, b, d, e⟩ k => ⟨i, m, t, u, n, a, b, d, k _ e⟩⟩
  have hc1 : (upd H g (.ext (genO g c))) c = some (.lst (cells.map V.int)) := by rw [upd_ne (Ne.symm ne)]; exact hc
  obtain ⟨_, its, n, rv, e⟩ := I1.hok c _ hc1
  exact I1.write (x := c) (e := c) (o := .ext (cellsO c)) (t' := s.toks) (h' := s.heap) (by rw [hc1]; trivial) (.inl rfl) (fun b u _ q => q) ⟨_, e⟩
    ⟨⟨its, n, cells, rv.ints, v.ne, v.pos, v.len, e⟩, ⟨_, e⟩, fun h1 h2 ⟨i, n, ns, a, b, d, f, e⟩ k => ⟨i, n, ns, a, b, d, f, k _ e⟩⟩
def opened (H : Hp) (g c : Addr) (i m : Int) (cells : List Int) : Hp := upd (upd H g (.lst [.ref c, .int i, .int m])) c (.lst (cells.map V.int))
theorem open_inv {X : Cx} {H : Hp} {g c : Addr} {pins : List (Addr × Obj)} {σ : L2.St} {s : Shared} (ga : GenAt H g c) (I : Inv X pins σ H s) : ∃ i m cells, GenV i m cells ∧ Inv X pins σ (opened H g c i m cells) s := by
  obtain ⟨hg, hc, ne⟩ := ga
  obtain ⟨⟨i, m, t, u, n, i0, m0, m1, e⟩, _⟩ := I.hok g _ hg
  obtain ⟨⟨its, n2, ns, ia, n0, np, nl, e2⟩, _⟩ := I.hok c _ hc
  refine ⟨i, m, ns, ⟨i0, m0, m1, n0, np, nl⟩, ?_⟩
  have I1 : Inv X pins σ (upd H g (.lst [.ref c, .int i, .int m])) s := I.write (x := g) (e := g) (o := .lst [.ref c, .int i, .int m]) (t' := s.toks) (h' := s.heap) (by rw [hg]; trivial) (.inl rfl) (fun b u _ q => q) ⟨_, e⟩
    ⟨by show 3 ≤ sizeLine; decide, [.ref c, .int i t, .int m u], n, .cons rfl (.cons ⟨_, rfl⟩ (.cons ⟨_, rfl⟩ .nil)), e⟩
  have hc1 : (upd H g (.lst [.ref c, .int i, .int m])) c = some (.ext (cellsO c)) := by rw [upd_ne (Ne.symm ne)]; exact hc
  exact I1.write (x := c) (e := c) (o := .lst (ns.map V.int)) (t' := s.toks) (h' := s.heap) (by rw [hc1]; trivial) (.inl rfl) (fun b u _ q => q) ⟨_, e2⟩
    ⟨by rw [List.length_map]; exact Nat.le_trans nl (by decide), its, n2, vals_ints ia, e2⟩
theorem pss_open {X : Cx} {st : List Stmt} {t : TS} (h : PSs X st t) : PSs X st (fun D σ H => ∃ g c, GenAt H g c ∧ ∀ i m cells, GenV i m cells → t D σ (opened H g c i m cells)) :=
  ⟨fun pins s σ H D I ⟨g, c, ga, hw⟩ => by
    obtain ⟨i, m, cells, v, I1⟩ := open_inv ga I
    exact h.run pins s σ _ D I1 (hw i m cells v)⟩
/-- a slot under a name that the text does not know -/
theorem Inv.ghost {X : Cx} {pins : List (Addr × Obj)} {σ : L2.St} {H : Hp} {s : Shared} {i : Nat} {o : Option V} (I : Inv X pins σ H s) (hi : ∀ x, X.N[i]? = some x → ¬ Vis X.env.scope x) : Inv X pins (σ.set i o) H s := by
  refine ⟨I.ok, I.os, I.bare, I.base, ?_, I.cell, I.free, I.freeC, I.pin, I.hok, by rw [List.length_set]; exact I.len⟩
  obtain ⟨m, hn, hl⟩ := I.loc
  refine ⟨m, hn, fun j x v e1 e2 e3 => ?_⟩
  by_cases hj : j = i
  · subst hj; exact absurd e3 (hi x e1)
  · rw [List.getElem?_set_ne (Ne.symm hj)] at e2; exact hl j x v e1 e2 e3
theorem pss_ghost {X : Cx} {st : List Stmt} {t : TS} {i : Nat} (hi : ∀ x, X.N[i]? = some x → ¬ Vis X.env.scope x) (h : PSs X st t) : PSs X st (fun D σ H => ∃ o, t D (σ.set i o) H) :=
  ⟨fun pins s σ H D I ⟨o, hw⟩ => h.run pins s _ H D (Inv.ghost I hi) hw⟩
/-- a name for what another slot holds -/
def sAdopt (i j : Nat) (c : CS) : CS := fun ρ W E => match ρ[i]?, ρ[j]? with
  | some (.sh (.raw (.ref p))), some (.ow d (some q)) => p = q ∧ i ≠ j ∧ c ((ρ.set j .no).set i (.ow d (some q))) W E
  | _, _ => False
section
variable {X : Cx} {E : EX} {ss : List Stmt} {c : CS}
theorem rss_adopt {i j : Nat} (h : PSs X ss (rdS X.K E c)) : PSs X ss (rdS X.K E (sAdopt i j c)) := h.imp fun Dn σ H ⟨F, ρ, W, re, h, l⟩ => by
  unfold sAdopt at h
  split at h
  · rename_i p d q ei ej
    obtain ⟨rfl, hij, h⟩ := h
    refine ⟨F, _, W, ?_, h, l⟩
    obtain ⟨v, h1, x, rfl, rx⟩ := re.cell i _ ei
    cases rx
    obtain ⟨v, h2, p', rfl, hB, hF, hO, hz⟩ := re.cell j _ ej
    have ep := hz p rfl
    subst ep
    have r1 := re.forget j
    have hi : i < ρ.length := lt_of_at ei
    have r2 := r1.put i (o := some (.ref p')) (c := .ow d (some p')) ⟨p', rfl, hB, hF, hO, fun q z => by cases z; rfl⟩ fun d2 z2 p2 e1 e2 k e y hk ek es => by
      cases e1; cases e2
      rcases set_at ek with ⟨_, _, z⟩ | ⟨hkj, ek2⟩
      · cases z
      · exact re.dis k j e d y (some p') p' hkj ek2 ej es h2
    have es : σ.set i (some (.ref p')) = σ := by
      apply List.ext_getElem?
      intro k
      by_cases hk : i = k
      · subst hk
        rw [List.getElem?_set_self (by rw [re.len]; exact hi), h1]
      · rw [List.getElem?_set_ne hk]
    rw [es] at r2
    exact r2
  · exact h.elim
end

def begunM : List D → M D
  | [.scr _] => fun Q _ => Q .gen
  | _ => fail
def drawM : List D → M D
  | [.gen, .int n] => fun Q _ => (0 < n ∧ n < 2 ^ 30) ∧ ∀ k, 0 ≤ k → k < n → Q (.int k)
  | _ => fail
def BegunC (c : CS) (N : List Str) : Prop := ∀ (ns : List Int) (rt : D → Env → Prop) (E : Xn → Env → Prop), (∀ (cells : List Int) ρ, GenV 0 1 cells → rt (.lst [.lst (cells.map .int), .int 0, .int 1]) ρ) → c (startE N [.scr ns]) { nx := fun _ => False, rt := rt } E
def DrawC (c : CS) : Prop := ∀ (g cc : Addr) (i m : Int) (cells : List Int) (n : Int) (rt : D → Env → Prop) (E : Xn → Env → Prop), GenV i m cells → 0 < n → n < 2 ^ 30 →
  (∀ (k i' m' : Int) (cells' : List Int) (ρ : Env), 0 ≤ k → k < n → GenV i' m' cells' → ρ[0]? = some (.ow (.lst [.raw (.ref cc), .int i', .int m']) (some g)) → ρ[2]? = some (.ow (.lst (cells'.map .int)) (some cc)) → rt (.int k) ρ) →
  c [.ow (.lst [.raw (.ref cc), .int i, .int m]) (some g), .sh (.int n), .no, .no, .no, .ow (.lst (cells.map .int)) (some cc)] { nx := fun _ => False, rt := rt } E
section
variable {P : Program} {w : World} {K : PySem.W.Frag} {mg : Str → Option Value} {base : Heap} {k : Nat} {gl : List (Str × GV)}
theorem rep_ints {F : Hp} : ∀ {vs : List V} {ns : List Int}, RepL K F vs (ns.map D.int) → vs = ns.map V.int
  | [], [], _ => rfl
  | _, n :: ns, .cons r t => by cases r; rw [rep_ints t]; rfl
  | _ :: _, [], r => by cases r
theorem draw_ok {R : Rules} (O : RulesOk R) {n : Nat} {x qual : Str} {st : Stmt} {f : Addr} {fd : FuncData} {N : List Str} {a b : Str} {c1 c2 : CS} (F : Fun K x qual st f fd) (S : FnScope N [a, b] (defScope st)) (hN : N.length = 6)
    (gh : ∀ x, N[5]? = some x → (defScope st).names.lookup x = none) (hg : GlB P w K mg base k gl) (hl : 2 ≤ (defBody st).length)
    (h1 : ssOf (recN R n) (mkSg N (defScope st) gl [0, 2]) ((defBody st).take 1) = some c1) (h2 : ssOf (recN R n) (mkSg N (defScope st) gl [0, 2]) ((defBody st).drop 1) = some c2) (hm : DrawC (sSeq c1 (sAdopt 2 5 c2))) :
    FnG P w K mg base (L2.CX P w) (k + 1) f fd [a, b] (SpM K 2 drawM) := by
  refine Fun.okG F S (fun vs H Q E h => h.1) (fun cdv A outer s H vs Q E hr gd h => ?_)
  obtain ⟨hn, F0, ds, QD, ED, sm, r, hq, kq, ke⟩ := h
  obtain ⟨v0, v1, rfl⟩ := len2 hn
  obtain ⟨d0, d1, rfl, r0, r1⟩ := r.two
  have sg : ∀ B : Hp, SgOk (cxOf (L2.CX P w) P w K mg base N qual (defScope st) f cdv A outer s H E) (mkSg N (defScope st) gl [0, 2]) ⟨B, fun _ => none, fun _ _ => False⟩ := fun B => (cx_ok (n := n) S hg hr gd (F0 := F0) (ED := fun _ => False) fun _ _ _ _ _ _ _ q => q.elim).ex (takes_noE (E := ⟨B, fun _ => none, fun _ _ => False⟩)) (fun _ _ _ _ h => h.elim)
  cases r0 with
  | @gen g c ga =>
    cases r1 with
    | int nn =>
      obtain ⟨⟨hn0, hn1⟩, hk⟩ := hq
      cases hb : defBody st with
      | nil => rw [hb] at hl; exact absurd hl (by decide)
      | cons s1 rest =>
        rw [hb] at h1 h2
        obtain ⟨B, hB⟩ : ∃ B : Hp, B = fun b => if b = g ∨ b = c then none else H b := ⟨_, rfl⟩
        have pp2 := ssOf_ok (E := ⟨B, fun _ => none, fun _ _ => False⟩) (recN_ok O n) (sg B) PassesOwn.leaving h2
        have p1' : PS (cxOf (L2.CX P w) P w K mg base N qual (defScope st) f cdv A outer s H E) s1 (rdS K ⟨B, fun _ => none, fun _ _ => False⟩ c1) := (recN_ok O n).s (sg B) PassesOwn.leaving h1
        have whole := rss_cons p1' (rss_adopt (i := 2) (j := 5) pp2)
        refine ⟨_, pss_open (pss_ghost (i := 5) (fun x hx hv => ?_) (pss_post whole)), g, c, ⟨sm _ _ ga.1, sm _ _ ga.2.1, ga.2.2⟩, fun i m cells v => ⟨some (.ref c), ?_⟩⟩
        · have z := gh x hx
          have hv : Vis (defScope st) x := hv
          unfold Vis at hv
          rw [z] at hv
          rcases hv with q | q | q <;> cases q
        · have hgc := ga.2.2
          have Bg : B g = none := by rw [hB]; exact if_pos (.inl rfl)
          have Bc : B c = none := by rw [hB]; exact if_pos (.inr rfl)
          have Bo : ∀ b u, B b = some u → b ≠ g ∧ b ≠ c ∧ H b = some u := fun b u e => by
            rw [hB] at e
            by_cases hbb : b = g ∨ b = c
            · have e : (if b = g ∨ b = c then none else H b) = some u := e
              rw [if_pos hbb] at e; cases e
            · have e : (if b = g ∨ b = c then none else H b) = some u := e
              rw [if_neg hbb] at e; rw [not_or] at hbb; exact ⟨hbb.1, hbb.2, e⟩
          have og : (opened H g c i m cells) g = some (.lst [.ref c, .int i, .int m]) := by unfold opened; rw [upd_ne hgc, upd_same]
          have oc : (opened H g c i m cells) c = some (.lst (cells.map V.int)) := by unfold opened; rw [upd_same]
          have es : (L2.start N [V.ref g, V.int nn]).set 5 (some (.ref c)) = [some (.ref g), some (.int nn), none, none, none, some (.ref c)] := by
            unfold L2.start
            rw [hN]
            rfl
          rw [es]
          refine ⟨fun _ => none, _, { nx := fun _ => False, rt := fun d ρ => ∃ (k i' m' : Int) (cells' : List Int), d = .int k ∧ 0 ≤ k ∧ k < nn ∧ GenV i' m' cells' ∧ ρ[0]? = some (.ow (.lst [.raw (.ref c), .int i', .int m']) (some g)) ∧ ρ[2]? = some (.ow (.lst (cells'.map .int)) (some c)) }, ?_,
            hm g c i m cells nn _ (fun _ _ => False) v hn0 hn1 fun k i' m' cells' ρ a b d e f => ⟨k, i', m', cells', rfl, a, b, d, e, f⟩, ?_⟩
          · refine ⟨fun b u e => ?_, Same.refl _, fun b u e => (by cases e), fun b u e => (by cases e), rfl, fun i' c' e => ?_, fun i1 i2 d e z y p hne e1 e2 e3 e4 => ?_⟩
            · obtain ⟨q1, q2, q3⟩ := Bo b u e
              unfold opened
              rw [upd_ne q2, upd_ne q1]; exact q3
            · match i', e with
              | 0, e => cases e; exact ⟨_, rfl, g, rfl, Bg, rfl, ⟨_, og, .cons (.raw _) (.cons (.int _) (.cons (.int _) .nil))⟩, fun q z => by cases z; rfl⟩
              | 1, e => cases e; exact ⟨_, rfl, _, rfl, .int nn⟩
              | 2, e => cases e; exact ⟨_, rfl, trivial⟩
              | 3, e => cases e; exact ⟨_, rfl, trivial⟩
              | 4, e => cases e; exact ⟨_, rfl, trivial⟩
              | 5, e => cases e; exact ⟨_, rfl, c, rfl, Bc, rfl, ⟨_, oc, repL_intsD _⟩, fun q z => by cases z; rfl⟩
              | n + 6, e => cases e
            · match i1, e1, e3 with
              | 0, e1, e3 =>
                cases e3
                match i2, e2, e4 with
                | 0, e2, e4 => exact hne rfl
                | 5, e2, e4 => cases e4; exact hgc rfl
              | 5, e1, e3 =>
                cases e3
                match i2, e2, e4 with
                | 0, e2, e4 => cases e4; exact hgc rfl
                | 5, e2, e4 => exact hne rfl
          · refine ⟨fun σ' H' F' ρ' re q => (show False from q).elim, fun v' σ' H' F' ρ' d re rp q => ?_, fun σ' H' F' ρ' re q => (show False from q).elim, fun σ' H' F' ρ' re q => (show False from q).elim, fun _ _ _ _ _ _ _ _ _ _ q => (show False from q).elim⟩
            obtain ⟨k', i', m', cells', rfl, k0, k1, gv, e0, e2⟩ := q
            obtain ⟨_, _, p0, rfl, _, _, ⟨vs0, q0, l0⟩, z0⟩ := re.cell 0 _ e0
            obtain ⟨_, _, p2, rfl, _, _, ⟨vs2, q2, l2⟩, z2⟩ := re.cell 2 _ e2
            have := z0 g rfl
            subst this
            have := z2 c rfl
            subst this
            have l2' := rep_ints l2
            subst l2'
            obtain ⟨x1, x2, x3, rfl, y1, y2, y3⟩ : ∃ x1 x2 x3, vs0 = [x1, x2, x3] ∧ Rep K F' x1 (.raw (.ref p2)) ∧ Rep K F' x2 (.int i') ∧ Rep K F' x3 (.int m') := by
              cases l0 with | cons a t => cases t with | cons b t => cases t with | cons d t => cases t; exact ⟨_, _, _, rfl, a, b, d⟩
            cases y1; cases y2; cases y3
            cases rp
            refine ⟨_, rlx_close q0 q2 hgc gv, kq _ _ F0 (.int k') ⟨fun b u e => ?_, Same.refl F0, fun b u e => ?_, fun _ _ e => .inl e⟩ (Val.of (.int k')) (hk k' k0 k1)⟩
            all_goals
              have eH : H b = some u := by first | exact e | exact sm _ _ e
              by_cases h1 : b = p2
              · subst h1
                rw [upd_same, ← eH]
                exact (sm _ _ ga.2.1).symm
              · rw [upd_ne h1]
                by_cases h2 : b = p0
                · subst h2
                  rw [upd_same, ← eH]
                  exact (sm _ _ ga.1).symm
                · rw [upd_ne h2]
                  refine re.bh b u ?_
                  rw [show (⟨B, fun _ => none, fun _ _ => False⟩ : EX).B = B from rfl, hB]; show (if b = p0 ∨ b = p2 then none else H b) = some u
                  rw [if_neg (by rw [not_or]; exact ⟨h2, h1⟩)]
                  exact eH
    | _ => exact (show False from hq).elim
  | _ => exact (show False from hq).elim
end
end DL
namespace DL
open PySem L2

section
variable {P : Program} {w : World} {K : PySem.W.Frag} {mg : Str → Option Value} {base : Heap} {k : Nat} {gl : List (Str × GV)}
theorem begun_ok {R : Rules} (O : RulesOk R) {n : Nat} {x qual : Str} {st : Stmt} {f : Addr} {fd : FuncData} {N : List Str} {a : Str} {c : CS} (F : Fun K x qual st f fd) (S : FnScope N [a] (defScope st)) (hg : GlB P w K mg base k gl)
    (he : ssOf (recN R n) (mkSg N (defScope st) gl []) (defBody st) = some c) (hm : BegunC c N) : FnG P w K mg base (L2.CX P w) (k + 1) f fd [a] (SpM K 1 begunM) := by
  refine Fun.okG F S (fun vs H Q E h => h.1) (fun cdv A outer s H vs Q E hr gd h => ?_)
  obtain ⟨hn, F0, ds, QD, ED, sm, r, hq, kq, ke⟩ := h
  obtain ⟨v0, rfl⟩ := len1 hn
  obtain ⟨d0, rfl, r0⟩ := r.one
  cases r0 with
  | @scr a ns sa =>
    have hq : QD .gen := hq
    let F1 : Hp := fun b => match F0 b with | some (.frz o u) => some (.frz o u) | _ => none
    have f1 : ∀ b u, F1 b = some u → F0 b = some u ∧ ∃ o y, u = .frz o y := fun b u e => by
      have e : (match F0 b with | some (.frz o u) => some (HO.frz o u) | _ => none) = some u := e
      split at e
      · rename_i o y q; cases e; exact ⟨q, o, y, rfl⟩
      · cases e
    have s1 : Same F1 H := fun b u e => sm _ _ (f1 b u e).1
    have sa1 : ScrAt K F1 a (ns.map V.int) := by
      rcases sa with ⟨o, h⟩ | h
      · refine .inl ⟨o, ?_⟩
        show (match F0 a with | some (.frz o u) => some (HO.frz o u) | _ => none) = _
        rw [h]
      · exact .inr h
    refine ⟨_, pss_post (ssOf_ok (E := ⟨H, F1, fun _ _ => False⟩) (recN_ok O n) (cx_ok (n := n) S hg hr gd (F0 := F1) (ED := fun _ => False) fun _ _ _ _ _ _ _ q => q.elim) PassesOwn.leaving he), F1, startE N [.scr ns],
      { nx := fun _ => False, rt := fun d _ => ∃ cells : List Int, d = .lst [.lst (cells.map .int), .int 0, .int 1] ∧ GenV 0 1 cells }, start_env s1 (.cons (.scr sa1) .nil), hm ns _ (fun _ _ => False) fun cells ρ v => ⟨cells, rfl, v⟩, ?_⟩
    refine ⟨fun σ' H' F' ρ' re q => (show False from q).elim, fun v' σ' H' F' ρ' d re rp q => ?_, fun σ' H' F' ρ' re q => (show False from q).elim, fun σ' H' F' ρ' re q => (show False from q).elim, fun _ _ _ _ _ _ _ _ _ _ q => (show False from q).elim⟩
    obtain ⟨cells, rfl, gv⟩ := q
    cases rp with
    | @lst g vs _ hg l =>
      obtain ⟨x1, x2, x3, rfl, y1, y2, y3⟩ : ∃ x1 x2 x3, vs = [x1, x2, x3] ∧ Rep K F' x1 (.lst (cells.map .int)) ∧ Rep K F' x2 (.int 0) ∧ Rep K F' x3 (.int 1) := by
        cases l with | cons a t => cases t with | cons b t => cases t with | cons d t => cases t; exact ⟨_, _, _, rfl, a, b, d⟩
      cases y2; cases y3
      cases y1 with
      | @lst c ws _ hc l2 =>
        have l2' := rep_ints l2
        subst l2'
        have new : ∀ b xs, F' b = some (.lst xs) → H b = none := fun b xs e => by
          rcases re.fr b _ e with q | q
          · obtain ⟨_, o, y, z⟩ := f1 b _ q; cases z
          · exact q
        have ng := new _ _ hg
        have nc := new _ _ hc
        have hgc : g ≠ c := fun e => by
          subst e
          rw [hg] at hc
          have z := Option.some.inj hc
          have z := HO.lst.inj z
          cases cells with
          | nil => cases z
          | cons x xs => rw [List.map_cons] at z; cases (List.cons.inj z).1
        have q0 := re.fh _ _ hg
        have q2 := re.fh _ _ hc
        let F2 : Hp := fun b => if b = c then some (.ext (cellsO c)) else if b = g then some (.ext (genO g c)) else F0 b
        have Fo : ∀ b, b ≠ g → b ≠ c → F2 b = F0 b := fun b h1 h2 => by show (if b = c then _ else if b = g then _ else _) = _; rw [if_neg h2, if_neg h1]
        have Fg : F2 g = some (.ext (genO g c)) := by show (if g = c then _ else if g = g then _ else _) = _; rw [if_neg hgc, if_pos rfl]
        have Fc : F2 c = some (.ext (cellsO c)) := if_pos rfl
        have old : ∀ b u, H b = some u → b ≠ g ∧ b ≠ c := fun b u e => ⟨fun z => (by rw [z, ng] at e; cases e), fun z => (by rw [z, nc] at e; cases e)⟩
        have Ho : ∀ b, b ≠ g → b ≠ c → (upd (upd H' g (.ext (genO g c))) c (.ext (cellsO c))) b = H' b := fun b h1 h2 => by rw [upd_ne h2, upd_ne h1]
        refine ⟨_, rlx_close q0 q2 hgc gv, kq _ _ F2 .gen ⟨fun b u e => ?_, fun b u e => ?_, fun b u e => ?_, fun b u e => ?_⟩ (Val.of (.gen ⟨Fg, Fc, hgc⟩)) hq⟩
        · obtain ⟨h1, h2⟩ := old b u e
          rw [Ho b h1 h2]; exact re.bh b u e
        · obtain ⟨h1, h2⟩ := old b u (sm _ _ e)
          rw [Fo b h1 h2]; exact e
        · by_cases h2 : b = c
          · subst h2; rw [Fc] at e; rw [upd_same]; exact e
          · by_cases h1 : b = g
            · subst h1; rw [Fg] at e; rw [upd_ne h2, upd_same]; exact e
            · rw [Fo b h1 h2] at e
              rw [Ho b h1 h2]
              exact re.bh b u (sm _ _ e)
        · by_cases h2 : b = c
          · subst h2; exact .inr nc
          · by_cases h1 : b = g
            · subst h1; exact .inr ng
            · rw [Fo b h1 h2] at e; exact .inl e
  | _ => exact (show False from hq).elim
end
/-- the law's def -/
def lawM : List D → M D
  | [.scr _] => fun Q _ => Q (.bl true)
  | _ => fail
theorem law_sp (n : Nat) : ∀ (K : PySem.W.Frag) (H : Hp) (a : Addr) (ns : List Int), ns.length ≤ n → Only H → SqL K H a (ns.map V.int) → SpM K 1 lawM [.ref a] H (fun v _ => v = .bl true) fun _ _ _ => False := by
  intro K H a ns _ only sq
  refine ⟨rfl, H, [.scr ns], fun d => d = .bl true, fun _ => False, Same.refl H, .cons (.scr ?_) .nil, rfl, fun v H' F' d g r q => ?_, fun _ _ _ _ _ _ _ q => q.elim⟩
  · rcases sq with (h | h) | h
    · rcases only a with z | ⟨ob, xs, z⟩
      · rw [z] at h; cases h
      · rw [z] at h; cases h
    · exact .inl h
    · exact .inr h
  · subst q; cases r.rep; rfl

/-! ### a tuple to a tuple that is not stored name by name -/
def noSwapB (g : Sg) (ts vs : List Expr) : Bool :=
  !(ts.length == 2 || ts.length == 3) || vs.length != ts.length || (!(vs.any isStar) && ((ts.filterMap fun
    | .Name id pos => if (match g.sc.names.lookup id with | some .local => true | _ => false) && pos.line == (ts.head?.map (·.pos.line)).getD 0 then some id else none
    | _ => none).length != ts.length))
theorem stores_noB {X : Cx} {g : Sg} {E : EX} (ok : SgOk X g E) {ts vs : List Expr} {k k2 : Nat} {p p2 : Pos} (h : noSwapB g ts vs = true) : swappedStores [.Tuple ts k p] (.Tuple vs k2 p2) X.env = pure none := by
  have hk : X.env.scope.kind = .function := by rw [ok.sc]; exact ok.kind
  have hb : X.env.blockKind = .function := by unfold PySem.Env.blockKind; rw [hk]; rfl
  have kn : ∀ x, (match g.sc.names.lookup x with | some .local => true | _ => false) = (X.env.kindOf x == some .local) := fun x => by
    show _ = (X.env.scope.names.lookup x == some .local)
    rw [ok.sc]
    cases g.sc.names.lookup x with
    | none => rfl
    | some k => cases k <;> rfl
  unfold noSwapB at h
  simp only [kn] at h
  unfold swappedStores
  simp only [hb]
  show (if (!(ts.length == 2 || ts.length == 3) || vs.length != ts.length || (ScopeKind.function != ScopeKind.function)) = true then pure none else _) = _
  split
  · rfl
  · rename_i h1
    have h2 : (!(ts.length == 2 || ts.length == 3) || vs.length != ts.length) = false := by
      cases q : (!(ts.length == 2 || ts.length == 3) || vs.length != ts.length) with
      | false => rfl
      | true => rw [q] at h1; exact absurd rfl h1
    rw [h2, Bool.false_or, Bool.and_eq_true] at h
    obtain ⟨h3, h4⟩ := h
    have h3 : vs.any isStar = false := by simpa using h3
    show (if vs.any isStar = true then pure none else _) = _
    rw [h3, if_neg Bool.false_ne_true]
    have : ∀ (names : List Str) (rest : Sem (Option (List Str))), (names.length != ts.length) = true → (if (names.length != ts.length || names.eraseDups.length != names.length) = true then pure none else rest) = (pure none : Sem (Option (List Str))) := fun names rest q => by
      rw [q, Bool.true_or, if_pos rfl]
    exact this _ _ h4
def sTup2 : SR := fun r g st => match st with
  | .Assign [.Tuple ts k p] (.Tuple vs k2 p2) _ => if noSwapB g ts vs = true then match gOf g 6 (.Tuple ts k p), fOf r g (.Tuple vs k2 p2) with
    | some (_, gg), some x => some (sAsg gg x)
    | _, _ => none else none
  | _ => none
theorem sTup2_ok : SrOk sTup2 := by
  intro r R X g E st c ok hp h
  unfold sTup2 at h
  split at h
  · split at h
    · rename_i hn
      split at h
      · rename_i sl gg x h1 h2
        cases h
        exact rs_asg (fOf_ok R ok h2) (gOf_ok (p := (sl, gg)) ok h1) (by unfold swapsWithSole; exact noComp_sw rfl _ _) (stores_noB ok hn) rfl
      · cases h
    · cases h
  · cases h

def noM : List D → M (D × Bool) := fun _ => fail
theorem b_no {X : Cx} {T : String} : CallR X (.type T) (rcM X.K noM) := by
  intro pins s σ H xs us Q I r ⟨_, _, _, _, _, _, h, _⟩
  exact (show False from h).elim
end DL
namespace DL
open PySem L2

/-! ### reckoning with the mirrors -/
section
variable {i j : Int} {x y : D} {xs ys ds : List D} {a b : Str}
theorem bin_addI : binM .Add (.int i) (.int j) = ret (.int (i + j), false) := rfl
theorem bin_subI : binM .Sub (.int i) (.int j) = ret (.int (i - j), false) := rfl
theorem bin_mulI : binM .Mult (.int i) (.int j) = fun Q _ => CMul i j ∧ Q (.int (i * j), false) := rfl
theorem bin_divI : binM .FloorDiv (.int i) (.int j) = fun Q _ => CDiv i j ∧ Q (.int (i / j), false) := rfl
theorem bin_modI : binM .Mod (.int i) (.int j) = fun Q _ => 0 < j ∧ Q (.int (i % j), false) := rfl
theorem bin_powI : binM .Pow (.int i) (.int j) = fun Q _ => CPow i j ∧ Q (.int (i ^ j.toNat), false) := rfl
theorem bin_addS : binM .Add (.str a) (.str b) = fun Q _ => a.length + b.length ≤ sizeLine ∧ Q (.str (a ++ b), false) := rfl
theorem bin_addL : binM .Add (.lst xs) (.lst ys) = fun Q _ => xs.length + ys.length ≤ sizeLine ∧ Q (.lst (xs ++ ys), true) := rfl
theorem bin_addT : binM .Add (.tup xs) (.tup ys) = fun Q _ => xs.length + ys.length ≤ sizeLine ∧ Q (.tup (xs ++ ys), false) := rfl
theorem bin_mulL : binM .Mult (.lst xs) (.int i) = fun Q _ => (-(2 ^ 63) ≤ i ∧ i < 2 ^ 63 ∧ xs.length * i.toNat ≤ sizeLine) ∧ Q (.lst (List.replicate i.toNat xs).flatten, true) := rfl
theorem bin_mulT : binM .Mult (.tup xs) (.int i) = fun Q _ => xs ≠ [] ∧ 2 ≤ i ∧ i ≤ 1000 ∧ xs.length ≤ 1000 ∧ Q (.tup (List.replicate i.toNat xs).flatten, false) := rfl
theorem bin_mulS : binM .Mult (.str a) (.int i) = fun Q _ => MulOk a i ∧ Q (.str (Txt.mul a i), false) := rfl
theorem cmp_eq : cmpM .Eq x y = eqM x y := rfl
theorem cmp_ne : cmpM .NotEq x y = bnd (eqM x y) fun b => ret (!b) := rfl
theorem cmp_lt : cmpM .Lt (.int i) (.int j) = ret (decide (i < j)) := rfl
theorem cmp_le : cmpM .LtE (.int i) (.int j) = ret (decide (i ≤ j)) := rfl
theorem cmp_gt : cmpM .Gt (.int i) (.int j) = ret (decide (j < i)) := rfl
theorem cmp_ge : cmpM .GtE (.int i) (.int j) = ret (decide (j ≤ i)) := rfl
theorem cmp_is : cmpM .Is x .non = isNon x := rfl
theorem cmp_isnt : cmpM .IsNot x .non = bnd (isNon x) fun b => ret (!b) := rfl
theorem cmp_inS : cmpM .In (.str a) (.str b) = ret (inStr a b) := rfl
theorem cmp_ninS : cmpM .NotIn (.str a) (.str b) = ret (!inStr a b) := rfl
theorem eq_int : eqM (.int i) (.int j) = fun Q _ => Q (i == j) := rfl
theorem eq_str : eqM (.str a) (.str b) = fun Q _ => Q (a == b) := rfl
theorem ix_lst : ixM (.lst ds) (.int i) = fun Q _ => match atI ds i with | some d => Q d | none => False := rfl
theorem ix_tup : ixM (.tup ds) (.int i) = fun Q _ => match atI ds i with | some d => Q d | none => False := rfl
theorem tru_bl {k : Bool} : truM (.bl k) = ret k := rfl
theorem tru_lst : truM (.lst ds) = ret (!ds.isEmpty) := rfl
theorem tru_tup : truM (.tup ds) = ret (!ds.isEmpty) := rfl
theorem tru_int : truM (.int i) = ret (i != 0) := rfl
theorem tru_non : truM .non = ret false := rfl
theorem non_non : isNon .non = ret true := rfl
theorem non_int : isNon (.int i) = ret false := rfl
theorem non_str : isNon (.str a) = ret false := rfl
theorem non_bl {k : Bool} : isNon (.bl k) = ret false := rfl
theorem non_lst : isNon (.lst ds) = ret false := rfl
theorem non_tup : isNon (.tup ds) = ret false := rfl
theorem at_zero : atI (x :: xs) 0 = some x := by
  unfold atI ixN
  rw [if_pos (Int.le_refl 0), if_pos (by rw [List.length_cons]; omega)]; rfl
theorem at_one : atI (x :: y :: xs) 1 = some y := by
  unfold atI ixN
  rw [if_pos (by decide), if_pos (by rw [List.length_cons, List.length_cons]; omega)]; rfl
theorem at_two {z : D} : atI (x :: y :: z :: xs) 2 = some z := by
  unfold atI ixN
  rw [if_pos (by decide), if_pos (by rw [List.length_cons, List.length_cons, List.length_cons]; omega)]; rfl
theorem at_nat {n : Nat} (h : n < ds.length) : atI ds (n : Int) = some ds[n] := by
  unfold atI ixN
  rw [if_pos (by omega), if_pos (by omega)]
  show ds[(n : Int).toNat]? = _
  rw [Int.toNat_natCast, List.getElem?_eq_getElem h]
theorem at_last {h : ds ≠ []} : atI ds (-1) = some (ds.getLast h) := by
  have hl := List.length_pos_iff.mpr h
  unfold atI ixN
  rw [if_neg (by decide), if_pos (by omega)]
  show ds[(-1 + (ds.length : Int)).toNat]? = _
  have e : (-1 + (ds.length : Int)).toNat = ds.length - 1 := by omega
  rw [e, List.getElem?_eq_getElem (by omega), List.getLast_eq_getElem]
end
local macro_rules | `(tactic| walk_at "dl") => `(tactic| simp only [ret, fail, bnd, frz, cC, cVar, bVar, cBin, cNeg, cNot, cAnd, cOr, cIf, vT, tCm, tCh, tTru, tNo, tAn, tOr', cNil, cCons, cTup, cLst, cIx, oNo, oIs, cSl, cCall, callD, cCallK, cB, sNil, sSeq, sDrop, sSet, sAsg, sPar, sRet, sRetN, sIf, sBrk, sCnt, sNo, sFor, sFrz, sApp, sPut, sSetU, uOf, uPop, uPopAt, isOwL, sAdopt,
  gNm, gTp, gsCons, gsNil, tYesD, cLc, iSeq, iRng, iEn, cIsi, cLRg, cBest, cel, lenM, absM, listM, tupleM, itemsM, enumM, rgsM,
  bin_addI, bin_subI, bin_mulI, bin_divI, bin_modI, bin_powI, bin_addS, bin_addL, bin_addT, bin_mulL, bin_mulT, bin_mulS, cmp_eq, cmp_ne, cmp_lt, cmp_le, cmp_gt, cmp_ge, cmp_is, cmp_isnt, cmp_inS, cmp_ninS, eq_int, eq_str, ix_lst, ix_tup, tru_bl, tru_lst, tru_tup, tru_int, tru_non, non_non, non_int, non_str, non_bl, non_lst, non_tup, at_zero, at_one, at_two,
  List.getElem?_cons_zero, List.getElem?_cons_succ, List.set_cons_zero, List.set_cons_succ, Bool.false_and, Bool.true_and, Bool.and_false, Bool.and_true, Bool.false_eq_true, if_true, if_false, ite_true, ite_false, List.length_cons, List.length_nil, List.length_map, true_and, and_true, ne_eq, not_true_eq_false, not_false_eq_true, reduceCtorEq, Nat.reduceAdd, Nat.zero_add, *])

theorem at_ints {cells : List Int} {a : Int} (h0 : 0 ≤ a) (h1 : a < cells.length) : atI (cells.map D.int) a = some (.int (cells.getD a.toNat 0)) := by
  unfold atI ixN
  rw [List.length_map, if_pos h0, if_pos h1, Option.bind_some, List.getElem?_map, List.getD_eq_getElem?_getD, List.getElem?_eq_getElem (by omega)]
  rfl
theorem ix_nn {n : Nat} {a : Int} (h0 : 0 ≤ a) (h1 : a < n) : ixN n a = some a.toNat := by
  unfold ixN; rw [if_pos h0, if_pos h1]
theorem getD_mem {cells : List Int} {i : Nat} (h : i < cells.length) : cells.getD i 0 ∈ cells := by
  rw [List.getD_eq_getElem?_getD, List.getElem?_eq_getElem h]; exact List.getElem_mem h
theorem mod_lt' {a b : Int} (h : 0 < b) : 0 ≤ a % b ∧ a % b < b := ⟨Int.emod_nonneg _ (by omega), Int.emod_lt_of_pos _ h⟩
def thrOk (thr : CB) : Prop := ∀ ρ Q E, Q (.int 1000000000000000000) → thr ρ Q E
def mixOk (mix : CB) : Prop := ∀ (cc g : Addr) (i m n at' cell : Int) (cs : List D) (Q : D → Prop) (E : Xn → Prop), 0 ≤ m → m < 2147483647 → (∀ v, Q (.int v)) →
  mix [.ow (.lst [.raw (.ref cc), .int i, .int m]) (some g), .sh (.int n), .ow (.lst cs) (some cc), .sh (.int at'), .sh (.int cell), .no] Q E
def endOk (fin : CB) : Prop := ∀ (cc g : Addr) (i m n at' cell : Int) (cs : List D) (Q : D → Prop) (E : Xn → Prop), 0 ≤ m → m < 2147483647 → 0 < n → (∀ v, 0 ≤ v → v < n → Q (.int v)) →
  fin [.ow (.lst [.raw (.ref cc), .int i, .int m]) (some g), .sh (.int n), .ow (.lst cs) (some cc), .sh (.int at'), .sh (.int cell), .no] Q E
theorem draw_std {thr mix fin b1 b2 : CB} (ht : thrOk thr) (hx : mixOk mix) (hf : endOk fin)
    (h1 : ∀ (s g c : Cell) (n a x : Int) (l : Cell) Q E, 0 < n → n < 2 ^ 30 → Q (.int (x / n)) → b1 [s, .sh (.int n), c, .sh (.int a), .sh (.int x), l] Q E) (h2 : ∀ (s g c : Cell) (n a x : Int) (l : Cell) Q E, 0 < n → Q (.int (x % n)) → b2 [s, .sh (.int n), c, .sh (.int a), .sh (.int x), l] Q E) :
    DrawC (sSeq (sSet 2 true (cIx (bVar 0) (frz (cC (.int 0))))) (sAdopt 2 5 (sSeq (sSet 3 false (cBin .Mod (frz (cIx (bVar 0) (frz (cC (.int 1))))) (frz (cB lenM (cCons (bVar 2) (cNil)))))) (sSeq (sSet 4 false (cIx (bVar 2) (bVar 3)))
      (sSeq (sIf (tCm .GtE (bVar 4) thr) (sSeq (sPut 2 b1 (frz (cVar 3))) (sRet b2)) (sNil))
        (sSeq (sPut 0 (frz (cBin .Add (frz (cIx (bVar 0) (frz (cC (.int 1))))) (frz (cC (.int 1))))) (frz (cC (.int 1)))) (sSeq (sPut 0 (frz (cBin .Mod mix (frz (cC (.int 2147483647))))) (frz (cC (.int 2)))) (sRet fin)))))))) := by
  intro g cc i m cells n rt E gv n0 n1 k
  have hlen : 0 < cells.length := List.length_pos_iff.mpr gv.ne
  have hl : (0 : Int) < cells.length := by omega
  obtain ⟨a0, a1⟩ := mod_lt' (a := i) hl
  have e3 : ixN 3 1 = some 1 := rfl
  have e4 : ixN 3 2 = some 2 := rfl
  have ec := at_ints a0 a1
  have ei := ix_nn a0 a1
  have hmem := getD_mem (cells := cells) (i := (i % (cells.length : Int)).toNat) (by omega)
  generalize hcell : cells.getD (i % (cells.length : Int)).toNat 0 = cell at ec hmem
  have c0 := gv.pos _ hmem
  clear hcell
  walk_at "dl"
  refine ⟨by decide, ht _ _ _ ?_⟩
  walk_at "dl"
  by_cases hc : (1000000000000000000 : Int) ≤ cell
  · rw [decide_eq_true hc]
    walk_at "dl"
    refine h1 _ (.no) _ _ _ _ _ _ _ n0 n1 ?_
    try walk_at "dl"
    refine h2 _ (.no) _ _ _ _ _ _ _ n0 ?_
    obtain ⟨q0, q1⟩ := mod_lt' (a := cell) n0
    have ed : (cells.map D.int).set (i % (cells.length : Int)).toNat (.int (cell / n)) = (cells.set (i % (cells.length : Int)).toNat (cell / n)).map D.int := by rw [List.map_set]
    rw [ed]
    refine k _ i m _ _ q0 q1 ⟨gv.i0, gv.m0, gv.m1, ?_, fun x hx => ?_, by rw [List.length_set]; exact gv.len⟩ rfl rfl
    · intro z
      have := congrArg List.length z
      rw [List.length_set] at this
      have hl := List.length_pos_iff.mpr gv.ne
      rw [this] at hl; exact absurd hl (by decide)
    · rcases List.mem_or_eq_of_mem_set hx with hx | hx
      · exact gv.pos _ hx
      · rw [hx]; exact Int.ediv_nonneg c0 (by omega)
  · rw [decide_eq_false hc]
    walk_at "dl"
    refine hx cc g _ m n _ cell _ _ _ gv.m0 gv.m1 fun v => ?_
    walk_at "dl"
    refine ⟨by decide, ?_⟩
    obtain ⟨v0, v1⟩ := mod_lt' (a := v) (b := 2147483647) (by decide)
    refine hf cc g _ _ n _ cell _ _ _ v0 v1 n0 fun u u0 u1 => ?_
    exact k u _ _ _ _ u0 u1 ⟨by have := gv.i0; omega, v0, v1, gv.ne, gv.pos, gv.len⟩ rfl rfl
/-- the forms in which the draws are written -/
abbrev S (i : Int) : CB := frz (cIx (bVar 0) (frz (cC (.int i))))
abbrev L (i : Int) : CB := frz (cC (.int i))
abbrev mixA : CB := frz (cBin .Add (frz (cBin .Add (frz (cBin .Add (frz (cBin .Mult (S 2) (L 48271))) (bVar 4))) (L 12345))) (frz (cBin .Mult (L 7919) (S 1))))
abbrev mixB : CB := frz (cBin .Add (frz (cBin .Add (frz (cBin .Add (frz (cBin .Mult (S 2) (L 48271))) (bVar 4))) (frz (cBin .Mult (L 7919) (S 1))))) (L 12345))
abbrev mixC : CB := frz (cBin .Add (frz (cBin .Add (frz (cBin .Add (frz (cBin .Mult (S 2) (L 48271))) (bVar 4))) (L 12345))) (S 1))
abbrev finA : CB := frz (cBin .Mod (frz (cBin .FloorDiv (frz (cBin .Mod (frz (cBin .Mult (S 2) (S 2))) (L 2147483629))) (L 16))) (bVar 1))
abbrev thrA : CB := L 1000000000000000000
abbrev thrB : CB := frz (cBin .Pow (L 10) (L 18))
theorem thrA_ok : thrOk thrA := fun ρ Q E h => h
theorem thrB_ok : thrOk thrB := fun ρ Q E h => ⟨⟨by decide, by decide, by decide⟩, h⟩
theorem mixA_ok : mixOk mixA := by
  intro cc g i m n a cell cs Q E m0 m1 h
  walk_at "dl"
  exact ⟨.inr ⟨by decide, by decide⟩, .inl ⟨by decide, by decide⟩⟩
theorem mixB_ok : mixOk mixB := by
  intro cc g i m n a cell cs Q E m0 m1 h
  walk_at "dl"
  exact ⟨.inr ⟨by decide, by decide⟩, .inl ⟨by decide, by decide⟩⟩
theorem mixC_ok : mixOk mixC := by
  intro cc g i m n a cell cs Q E m0 m1 h
  walk_at "dl"
  exact .inr ⟨by decide, by decide⟩
theorem finA_ok : endOk finA := by
  intro cc g i m n a cell cs Q E m0 m1 n0 h
  walk_at "dl"
  refine ⟨.inl ⟨by omega, by omega⟩, by decide, ⟨by decide, by decide⟩, ?_⟩
  obtain ⟨q0, q1⟩ := mod_lt' (a := m * m % 2147483629 / 16) n0
  exact h _ q0 q1
end DL
namespace DL
open PySem L2
local macro_rules | `(tactic| walk_at "dl") => `(tactic| simp only [ret, fail, bnd, frz, cC, cVar, bVar, cBin, cNeg, cNot, cAnd, cOr, cIf, vT, tCm, tCh, tTru, tNo, tAn, tOr', cNil, cCons, cTup, cLst, cIx, oNo, oIs, cSl, cCall, callD, cCallK, cB, sNil, sSeq, sDrop, sSet, sAsg, sPar, sRet, sRetN, sIf, sBrk, sCnt, sNo, sFor, sFrz, sApp, sPut, sSetU, uOf, uPop, uPopAt, isOwL, sAdopt,
  gNm, gTp, gsCons, gsNil, tYesD, cLc, iSeq, iRng, iEn, cIsi, cLRg, cBest, cel, lenM, absM, listM, tupleM, itemsM, enumM, rgsM,
  bin_addI, bin_subI, bin_mulI, bin_divI, bin_modI, bin_powI, bin_addS, bin_addL, bin_addT, bin_mulL, bin_mulT, bin_mulS, cmp_eq, cmp_ne, cmp_lt, cmp_le, cmp_gt, cmp_ge, cmp_is, cmp_isnt, cmp_inS, cmp_ninS, eq_int, eq_str, ix_lst, ix_tup, tru_bl, tru_lst, tru_tup, tru_int, tru_non, non_non, non_int, non_str, non_bl, non_lst, non_tup, at_zero, at_one, at_two,
  List.getElem?_cons_zero, List.getElem?_cons_succ, List.set_cons_zero, List.set_cons_succ, Bool.false_and, Bool.true_and, Bool.and_false, Bool.and_true, Bool.false_eq_true, if_true, if_false, ite_true, ite_false, List.length_cons, List.length_nil, List.length_map, true_and, and_true, ne_eq, not_true_eq_false, not_false_eq_true, reduceCtorEq, Nat.reduceAdd, Nat.zero_add, *])

/-! ### comprehensions and loops -/
theorem lc_rel {g : CG} {t : CT} {e : CB} {ρ : Env} {E : Xn → Prop} (st : D → Env) (keep : D → Bool) (P : D → D → Prop) : ∀ {ds : List D} {Q : List D → Prop}, (∀ d ∈ ds, ∀ Q, Q (st d) → g d ρ Q E) → (∀ d ∈ ds, ∀ Q : Bool → Prop, Q (keep d) → t (st d) Q E) →
    (∀ d ∈ ds, keep d = true → ∀ Q : D → Prop, (∀ x, P d x → Q x) → e (st d) Q E) → (∀ rs, Paired P (ds.filter keep) rs → Q rs) → lcM g t e ρ ds Q E
  | [], Q, _, _, _, hQ => hQ [] .nil
  | d :: ds, Q, hg, ht, he, hQ => by
    unfold lcM
    refine hg d List.mem_cons_self _ (ht d List.mem_cons_self _ ?_)
    have tl := fun (Q' : List D → Prop) => lc_rel st keep P (ds := ds) (Q := Q') (fun d hd => hg d (List.mem_cons_of_mem _ hd)) (fun d hd => ht d (List.mem_cons_of_mem _ hd)) (fun d hd => he d (List.mem_cons_of_mem _ hd))
    cases hk : keep d with
    | true =>
      show bnd (e (st d)) _ Q E
      refine he d List.mem_cons_self hk _ fun x px => tl _ fun rs hr => hQ _ ?_
      rw [List.filter_cons, if_pos hk]
      exact .cons px hr
    | false =>
      show lcM g t e ρ ds Q E
      refine tl _ fun rs hr => hQ _ ?_
      rw [List.filter_cons, if_neg (by rw [hk]; exact Bool.false_ne_true)]
      exact hr
theorem pair_map {f : D → D} : ∀ {ds rs : List D}, Paired (fun d x => x = f d) ds rs → rs = ds.map f
  | _, _, .nil => rfl
  | _, _, .cons h t => by rw [List.map_cons, ← pair_map t, h]
theorem lc_fun {g : CG} {t : CT} {e : CB} {ρ : Env} {E : Xn → Prop} (st : D → Env) (keep : D → Bool) (f : D → D) {ds : List D} {Q : List D → Prop} (hg : ∀ d ∈ ds, ∀ Q, Q (st d) → g d ρ Q E) (ht : ∀ d ∈ ds, ∀ Q : Bool → Prop, Q (keep d) → t (st d) Q E)
    (he : ∀ d ∈ ds, keep d = true → ∀ Q : D → Prop, Q (f d) → e (st d) Q E) (hQ : Q ((ds.filter keep).map f)) : lcM g t e ρ ds Q E :=
  lc_rel st keep (fun d x => x = f d) hg ht (fun d hd hk Q h => he d hd hk Q (h _ rfl)) fun rs hr => by rw [pair_map hr]; exact hQ
theorem lc_map {i : Nat} {e : CB} {ρ : Env} {E : Xn → Prop} (f : D → D) {ds : List D} {Q : List D → Prop} (he : ∀ d ∈ ds, ∀ Q : D → Prop, Q (f d) → e (ρ.set i (.sh d)) Q E) (hQ : Q (ds.map f)) : lcM (gNm i) tYesD e ρ ds Q E :=
  lc_fun (fun d => ρ.set i (.sh d)) (fun _ => true) f (fun d _ Q h => h) (fun d _ Q h => h) (fun d hd _ Q h => he d hd Q h) (by rw [List.filter_eq_self.mpr fun _ _ => rfl]; exact hQ)
theorem for_inv {g : CG} {b : CS} {E : Xn → Env → Prop} {W : EndD} (I : Nat → Env → Prop) : ∀ {ds : List D} {k : Nat} {ρ : Env}, I k ρ →
    (∀ i d ρ (nx : Env → Prop), ds[i]? = some d → I (k + i) ρ → (∀ ρ', I (k + i + 1) ρ' → nx ρ') → g d ρ (fun ρ' => b ρ' { nx := nx, rt := W.rt, bk := W.nx, ct := nx, ro := W.ro } E) (fun _ => False)) → (∀ ρ, I (k + ds.length) ρ → W.nx ρ) → forM g b ds ρ W E
  | [], k, ρ, h0, _, hd => hd ρ h0
  | d :: ds, k, ρ, h0, hs, hd => by
    unfold forM
    refine hs 0 d ρ (fun ρ2 => forM g b ds ρ2 W E) rfl h0 fun ρ' h' => ?_
    refine for_inv I (k := k + 1) h' (fun i d ρ nx hi hI hn => ?_) fun ρ h => hd ρ ?_
    · have e : k + 1 + i = k + (i + 1) := by omega
      rw [e] at hI hn
      exact hs (i + 1) d ρ nx (by simpa using hi) hI hn
    · have e : k + (d :: ds).length = k + 1 + ds.length := by rw [List.length_cons]; omega
      rw [e]; exact h

/-! ### the helpers that the laws share -/
theorem cut_take {α : Type} (xs : List α) (n : Nat) : cutA xs none (some (n : Int)) = xs.take n := by
  unfold cutA
  rw [HT.sIx_nat]
  show (xs.drop 0).take (min n xs.length - 0) = _
  rw [List.drop_zero, Nat.sub_zero]
  rcases Nat.le_total n xs.length with h | h
  · rw [Nat.min_eq_left h]
  · rw [Nat.min_eq_right h, List.take_length, List.take_of_length_le h]
theorem cut_drop {α : Type} (xs : List α) (n : Nat) : cutA xs (some (n : Int)) none = xs.drop n := by
  unfold cutA
  rw [HT.sIx_nat]
  show (xs.drop (min n xs.length)).take (xs.length - min n xs.length) = _
  rcases Nat.le_total n xs.length with h | h
  · rw [Nat.min_eq_left h, List.take_of_length_le (by rw [List.length_drop]; exact Nat.le_refl _)]
  · rw [Nat.min_eq_right h, List.drop_length, List.drop_of_length_le h, List.take_nil]
def begunC (j : Nat) : CS := sRet (frz (cLst (cCons (frz (cOr (cLc [j] (iSeq (frz (cSl (bVar 0) (oNo) (oIs (frz (cC (.int 63))))))) (gNm j) (tYesD) (frz (cB absM (cCons (bVar j) (cNil))))) (cLst (cCons (frz (cC (.int 7))) (cNil))))) (cCons (frz (cC (.int 0))) (cCons (frz (cC (.int 1))) (cNil))))))
theorem begun_std {x y : Str} : BegunC (begunC 1) [x, y] := by
  intro ns rt E h
  show begunC 1 [.sh (.scr ns), .no] _ E
  have e63 : (63 : Int) = ((63 : Nat) : Int) := rfl
  unfold begunC
  walk_at "dl"
  show ((cutA ns none (some 63)).map D.int).length ≤ sizeLine ∧ _
  rw [e63, cut_take]
  have hl : (ns.take 63).length ≤ 63 := by rw [List.length_take]; exact Nat.min_le_left _ _
  refine ⟨by rw [List.length_map]; exact Nat.le_trans hl (by decide), ?_⟩
  let ab : D → D := fun d => match d with | .int i => .int (if i < 0 then -i else i) | d => d
  refine lc_map ab (fun d hd Q q => ?_) ?_
  · obtain ⟨i, _, rfl⟩ := List.mem_map.mp hd
    exact q
  · have em : ((ns.take 63).map D.int).map ab = ((ns.take 63).map fun i : Int => if i < 0 then -i else i).map D.int := by rw [List.map_map, List.map_map]; rfl
    rw [em]
    cases hc : (ns.take 63).map fun i : Int => if i < 0 then -i else i with
    | nil =>
      show (1 ≤ sizeLine ∧ _)
      refine ⟨by decide, by decide, ?_⟩
      exact h [7] _ ⟨by decide, by decide, by decide, by decide, by decide, by decide⟩
    | cons a r =>
      show (3 ≤ sizeLine ∧ _)
      refine ⟨by decide, ?_⟩
      refine h (a :: r) _ ⟨by decide, by decide, by decide, by simp, fun z hz => ?_, by rw [← hc, List.length_map]; exact hl⟩
      rw [← hc] at hz
      obtain ⟨i, _, rfl⟩ := List.mem_map.mp hz
      split <;> omega

/-- data that may be compared -/
def pyOk (ds : List D) : Prop := ∀ d ∈ ds, ∃ p, d.py = some p ∧ p.canLay0 = true ∧ p.depth ≤ 60
theorem pyOk_some : ∀ {ds : List D}, pyOk ds → ∃ ps, pyL ds = some ps ∧ PyData.canLayAll0 ps = true ∧ PyData.depthAll ps ≤ 60
  | [], _ => ⟨[], rfl, rfl, Nat.zero_le _⟩
  | d :: ds, h => by
    obtain ⟨p, h1, h2, h3⟩ := h d List.mem_cons_self
    obtain ⟨ps, q1, q2, q3⟩ := pyOk_some (ds := ds) fun d hd => h d (List.mem_cons_of_mem _ hd)
    refine ⟨p :: ps, by simp only [pyL, h1, q1], by rw [PyData.canLayAll0, h2, q2]; rfl, ?_⟩
    rw [PyData.depthAll]
    exact Nat.max_le.mpr ⟨h3, q3⟩
theorem pyOk_shaped {ds : List D} (h : pyOk ds) : ∃ ps, pyL ds = some ps ∧ SeqAt.shaped (.list ps) = true ∧ SeqAt.shaped (.tuple ps) = true := by
  obtain ⟨ps, h1, h2, h3⟩ := pyOk_some h
  refine ⟨ps, h1, ?_, ?_⟩ <;>
  · unfold SeqAt.shaped
    rw [PyData.canLay0, h2, PyData.depth]
    simp only [Bool.true_and, decide_eq_true_eq]
    omega
theorem pyL_len : ∀ {ds : List D} {ps : List PyData}, pyL ds = some ps → ps.length = ds.length
  | [], _, h => by cases h; rfl
  | d :: ds, ps, h => by
    simp only [pyL] at h
    split at h
    · cases h; rw [List.length_cons, List.length_cons, pyL_len ‹_›]
    · cases h
theorem eq_nilL {xs : List D} {Q : Bool → Prop} {E : Xn → Prop} (h : pyOk xs) (q : Q xs.isEmpty) : eqM (.lst xs) (.lst []) Q E := by
  obtain ⟨ps, h1, h2, _⟩ := pyOk_shaped h
  unfold eqM
  simp only [fl, D.py, h1, pyL, Option.map_some]
  refine ⟨h2, by decide, ?_⟩
  have hl := pyL_len h1
  cases xs with
  | nil => cases ps with
    | nil => exact q
    | cons _ _ => cases hl
  | cons _ _ => cases ps with
    | nil => cases hl
    | cons _ _ => exact q
theorem eq_nilT {xs : List D} {Q : Bool → Prop} {E : Xn → Prop} (h : pyOk xs) (q : Q xs.isEmpty) : eqM (.tup xs) (.tup []) Q E := by
  obtain ⟨ps, h1, _, h2⟩ := pyOk_shaped h
  unfold eqM
  simp only [fl, D.py, h1, pyL, Option.map_some]
  refine ⟨h2, by decide, ?_⟩
  have hl := pyL_len h1
  cases xs with
  | nil => cases ps with
    | nil => exact q
    | cons _ _ => cases hl
  | cons _ _ => cases ps with
    | nil => cases hl
    | cons _ _ => exact q

/-! ### pick, mixed -/
def pickM : List D → M D
  | [.gen, .lst ds] => fun Q _ => (ds ≠ [] ∧ ds.length ≤ 1000) ∧ ∀ d ∈ ds, Q d
  | [.gen, .tup ds] => fun Q _ => (ds ≠ [] ∧ ds.length ≤ 1000) ∧ ∀ d ∈ ds, Q d
  | _ => fail
def pickC : CS := sRet (frz (cIx (bVar 1) (frz (cCall 2 drawM (cCons (frz (cVar 0)) (cCons (frz (cB lenM (cCons (bVar 1) (cNil)))) (cNil)))))))
theorem pick_std {x y : Str} : ∀ ds QD ED, pickM ds QD ED → pickC (startE [x, y] ds) { nx := fun _ => QD .non, rt := fun d _ => QD d } (fun x _ => ED x) := by
  intro ds QD ED h
  unfold pickM at h
  split at h
  · rename_i ds
    obtain ⟨⟨hn, hl⟩, h⟩ := h
    have hp := List.length_pos_iff.mpr hn
    show pickC [.sh .gen, .sh (.lst ds)] _ (fun x _ => ED x)
    unfold pickC
    walk_at "dl"
    refine ⟨⟨by omega, by omega⟩, fun k k0 k1 => ?_⟩
    obtain ⟨n, rfl⟩ : ∃ n : Nat, k = n := ⟨k.toNat, by omega⟩
    have hn : n < ds.length := by omega
    walk_at "dl"
    rw [at_nat hn]
    exact h _ (List.getElem_mem hn)
  · rename_i ds
    obtain ⟨⟨hn, hl⟩, h⟩ := h
    have hp := List.length_pos_iff.mpr hn
    show pickC [.sh .gen, .sh (.tup ds)] _ (fun x _ => ED x)
    unfold pickC
    walk_at "dl"
    refine ⟨⟨by omega, by omega⟩, fun k k0 k1 => ?_⟩
    obtain ⟨n, rfl⟩ : ∃ n : Nat, k = n := ⟨k.toNat, by omega⟩
    have hn : n < ds.length := by omega
    walk_at "dl"
    rw [at_nat hn]
    exact h _ (List.getElem_mem hn)
  · exact h.elim
theorem take_out {l : List D} {n : Nat} (h : n < l.length) : ([l[n]] ++ l.eraseIdx n).Perm l := by
  rw [List.eraseIdx_eq_take_drop_succ]
  have e : l = l.take n ++ l[n] :: l.drop (n + 1) := by
    rw [← List.drop_eq_getElem_cons h, List.take_append_drop]
  conv => rhs; rw [e]
  rw [List.singleton_append]
  exact List.perm_middle.symm
def mixedM : List D → M D
  | [.gen, .lst ds] => fun Q _ => (pyOk ds ∧ ds.length ≤ 1000) ∧ ∀ es : List D, es.Perm ds → Q (.lst es)
  | _ => fail
def mixedC : CS := sSeq (sPar 2 3 true true (cB listM (cCons (bVar 1) (cNil))) (cLst (cNil))) (sSeq (sWhile (tCm .NotEq (bVar 2) (frz (cLst (cNil)))) (sApp 3 (uPopAt 2 (frz (cCall 2 drawM (cCons (frz (cVar 0)) (cCons (frz (cB lenM (cCons (bVar 2) (cNil)))) (cNil)))))))) (sFrz 3 (sRet (frz (cVar 3)))))
theorem mixed_std {x y z w : Str} : ∀ ds QD ED, mixedM ds QD ED → mixedC (startE [x, y, z, w] ds) { nx := fun _ => QD .non, rt := fun d _ => QD d } (fun x _ => ED x) := by
  intro ds QD ED h
  unfold mixedM at h
  split at h
  · rename_i ds
    obtain ⟨⟨hp, hl⟩, h⟩ := h
    show mixedC [.sh .gen, .sh (.lst ds), .no, .no] _ (fun x _ => ED x)
    unfold mixedC
    walk_at "dl"
    refine ⟨by decide, ?_⟩
    unfold sWhile
    refine ⟨fun n ρ => ∃ left found : List D, n = left.length ∧ ρ = [.sh .gen, .sh (.lst ds), .ow (.lst left) none, .ow (.lst found) none] ∧ (found ++ left).Perm ds, ⟨_, ds, [], rfl, rfl, by rw [List.nil_append]⟩, ?_⟩
    rintro n ρ ⟨left, found, rfl, rfl, pm⟩
    have sub : ∀ d ∈ left, d ∈ ds := fun d hd => pm.mem_iff.mp (List.mem_append_right _ hd)
    have lens := pm.length_eq
    rw [List.length_append] at lens
    walk_at "dl"
    refine ⟨by decide, eq_nilL (fun d hd => hp d (sub d hd)) ?_⟩
    cases hle : left with
    | nil =>
      rw [hle, List.append_nil] at pm
      show QD (.lst found)
      exact h found pm
    | cons a r =>
      rw [← hle]
      have hpos : 0 < left.length := by rw [hle]; exact Nat.succ_pos _
      have he : (!left.isEmpty) = true := by rw [hle]; rfl
      rw [if_pos he]
      refine ⟨⟨by omega, by omega⟩, fun k k0 k1 => ?_⟩
      obtain ⟨n, rfl⟩ : ∃ n : Nat, k = n := ⟨k.toNat, by omega⟩
      have hn : n < left.length := by omega
      have hs : seqIndex? (n : Int) left.length = some n := by
        unfold seqIndex?
        simp only [show ¬ ((n : Int) < 0) from by omega, if_false]
        rw [if_pos (by simp; omega), Int.toNat_natCast]
      show (-2 ^ 63 ≤ (n : Int) ∧ (n : Int) < 2 ^ 63) ∧ _
      refine ⟨⟨by omega, by omega⟩, ?_⟩
      rw [hs]
      show match left[n]? with | some d => _ | none => False
      rw [List.getElem?_eq_getElem hn]
      refine ⟨by rw [sizeLine_eq]; omega, (left.eraseIdx n).length, ?_, left.eraseIdx n, found ++ [left[n]], rfl, rfl, ?_⟩
      · rw [List.length_eraseIdx_of_lt hn]; omega
      · rw [List.append_assoc]
        exact ((take_out hn).append_left found).trans pm
  · exact h.elim
end DL
namespace DL
open PySem L2
section
variable {Ts : List TyN} {ds : List D} {i : Int} {a : Str} {b : Bool} {kvs : List (D × D)}
theorem isi_non : isiM Ts .non = ret (.bl (Ts.any (subN .non)), false) := rfl
theorem isi_bl : isiM Ts (.bl b) = ret (.bl (Ts.any (subN .bl)), false) := rfl
theorem isi_int : isiM Ts (.int i) = ret (.bl (Ts.any (subN .int)), false) := rfl
theorem isi_str : isiM Ts (.str a) = ret (.bl (Ts.any (subN .str)), false) := rfl
theorem isi_lst : isiM Ts (.lst ds) = ret (.bl (Ts.any (subN .lst)), false) := rfl
theorem isi_tup : isiM Ts (.tup ds) = ret (.bl (Ts.any (subN .tup)), false) := rfl
theorem isi_dct : isiM Ts (.dct kvs) = ret (.bl (Ts.any (subN .dct)), false) := rfl
theorem sub_tab : subN .tup .tup = true ∧ subN .tup .lst = false ∧ subN .tup .int = false ∧ subN .tup .bl = false ∧ subN .tup .str = false ∧ subN .tup .dct = false ∧
  subN .lst .tup = false ∧ subN .lst .lst = true ∧ subN .lst .int = false ∧ subN .lst .bl = false ∧ subN .lst .str = false ∧ subN .lst .dct = false ∧
  subN .int .tup = false ∧ subN .int .lst = false ∧ subN .int .int = true ∧ subN .int .bl = false ∧ subN .int .str = false ∧ subN .int .dct = false ∧
  subN .bl .tup = false ∧ subN .bl .lst = false ∧ subN .bl .int = true ∧ subN .bl .bl = true ∧ subN .bl .str = false ∧ subN .bl .dct = false ∧
  subN .str .tup = false ∧ subN .str .lst = false ∧ subN .str .int = false ∧ subN .str .bl = false ∧ subN .str .str = true ∧ subN .str .dct = false ∧
  subN .dct .tup = false ∧ subN .dct .lst = false ∧ subN .dct .int = false ∧ subN .dct .bl = false ∧ subN .dct .str = false ∧ subN .dct .dct = true ∧
  subN .non .tup = false ∧ subN .non .lst = false ∧ subN .non .int = false ∧ subN .non .bl = false ∧ subN .non .str = false ∧ subN .non .dct = false := by
  refine ⟨?_, ?_, ?_, ?_, ?_, ?_, ?_, ?_, ?_, ?_, ?_, ?_, ?_, ?_, ?_, ?_, ?_, ?_, ?_, ?_, ?_, ?_, ?_, ?_, ?_, ?_, ?_, ?_, ?_, ?_, ?_, ?_, ?_, ?_, ?_, ?_, ?_, ?_, ?_, ?_, ?_, ?_⟩ <;> rfl
theorem len_lst : lenM [.lst ds] = ret (.int ds.length, false) := rfl
theorem len_tup : lenM [.tup ds] = ret (.int ds.length, false) := rfl
theorem len_dct : lenM [.dct kvs] = ret (.int kvs.length, false) := rfl
theorem len_str : lenM [.str a] = fun Q _ => a.length ≤ sizeLine ∧ Q (.int a.length, false) := rfl
theorem abs_int : absM [.int i] = ret (.int (if i < 0 then -i else i), false) := rfl
theorem list_lst : listM [.lst ds] = ret (.lst ds, true) := rfl
theorem list_tup : listM [.tup ds] = ret (.lst ds, true) := rfl
theorem tuple_lst : tupleM [.lst ds] = ret (.tup ds, false) := rfl
theorem tuple_tup : tupleM [.tup ds] = ret (.tup ds, false) := rfl
theorem items_lst : itemsM (.lst ds) = ret ds := rfl
theorem items_tup : itemsM (.tup ds) = ret ds := rfl
theorem items_str : itemsM (.str a) = ret (chars a) := rfl
theorem enum_lst : enumM [.lst ds] = ret (enumD ds) := rfl
theorem enum_tup : enumM [.tup ds] = ret (enumD ds) := rfl
end
/-! ### comparing data -/
theorem pyL_map {α : Type} {f : α → D} {p : α → PyData} (h : ∀ a, (f a).py = some (p a)) : ∀ l : List α, pyL (l.map f) = some (l.map p)
  | [] => rfl
  | a :: l => by simp only [List.map_cons, pyL, h, pyL_map h l]
theorem eqv_ints : ∀ xs ys : List Int, PyData.eqvAll (xs.map .int) (ys.map .int) = decide (xs = ys)
  | [], [] => by simp [PyData.eqvAll]
  | [], y :: ys => by simp [PyData.eqvAll]
  | x :: xs, [] => by simp [PyData.eqvAll]
  | x :: xs, y :: ys => by
    simp only [List.map_cons, PyData.eqvAll, eqv_ints xs ys, PyData.eqv]
    by_cases h : x = y
    · subst h; simp
    · have : (x == y) = false := by simpa using h
      rw [this, Bool.false_and]
      simp [h]
theorem shaped_ints (xs : List Int) : SeqAt.shaped (.list (xs.map .int)) = true ∧ SeqAt.shaped (.tuple (xs.map .int)) = true := by
  have h1 := lay_ints xs
  have h2 := depth_ints xs
  have d1 : (PyData.list (xs.map .int)).depth ≤ 64 := by rw [PyData.depth]; omega
  have d2 : (PyData.tuple (xs.map .int)).depth ≤ 64 := by rw [PyData.depth]; omega
  constructor
  · unfold SeqAt.shaped
    rw [PyData.canLay0, h1, decide_eq_true d1]; rfl
  · unfold SeqAt.shaped
    rw [PyData.canLay0, h1, decide_eq_true d2]; rfl
theorem eq_intsL {xs ys : List Int} {Q : Bool → Prop} {E : Xn → Prop} (q : Q (decide (xs = ys))) : eqM (.lst (xs.map .int)) (.lst (ys.map .int)) Q E := by
  unfold eqM
  simp only [fl, D.py, pyL_map (f := D.int) (p := PyData.int) (fun _ => rfl), Option.map_some]
  refine ⟨(shaped_ints xs).1, (shaped_ints ys).1, ?_⟩
  show Q (PyData.eqvAll _ _)
  rw [eqv_ints]; exact q
theorem eq_intsT {xs ys : List Int} {Q : Bool → Prop} {E : Xn → Prop} (q : Q (decide (xs = ys))) : eqM (.tup (xs.map .int)) (.tup (ys.map .int)) Q E := by
  unfold eqM
  simp only [fl, D.py, pyL_map (f := D.int) (p := PyData.int) (fun _ => rfl), Option.map_some]
  refine ⟨(shaped_ints xs).2, (shaped_ints ys).2, ?_⟩
  show Q (PyData.eqvAll _ _)
  rw [eqv_ints]; exact q
theorem intsD_map : ∀ ns : List Int, intsD (ns.map D.int) = some ns
  | [] => rfl
  | n :: ns => by simp only [List.map_cons, intsD, intsD_map ns, Option.map_some]
theorem blsD_map : ∀ ns : List Bool, blsD (ns.map D.bl) = some ns
  | [] => rfl
  | n :: ns => by simp only [List.map_cons, blsD, blsD_map ns, Option.map_some]
theorem maxD_Z {ns : List Int} {Q : D × Bool → Prop} {E : Xn → Prop} (h : ∀ x ∈ ns, 0 ≤ x) (q : Q (.int (ns.foldl max 0), false)) : bestDM true (.int 0) [.lst (ns.map D.int)] Q E := by
  cases ns with
  | nil => exact q
  | cons a r =>
    show bestI true (D.int a :: r.map D.int) Q E
    unfold bestI
    have : intsD (D.int a :: r.map D.int) = some (a :: r) := intsD_map (a :: r)
    rw [this]
    show Q (.int (topI a r), false)
    rw [foldl_top]
    have ha := h a List.mem_cons_self
    have e : (a :: r).foldl max 0 = r.foldl max a := by
      rw [List.foldl_cons]
      have : max 0 a = a := by omega
      rw [this]
    rw [← e]; exact q
end DL
namespace DL
open PySem L2 PySem.Spec PyProof.Rows

/-! ### zip of two sequences, lists or tuples -/
def SqX (K : PySem.W.Frag) (k : Bool) (H : Hp) (a : Addr) (xs : List V) : Prop := if k = true then SqT K H a xs else SqL K H a xs
def ItAt (k : Bool) (it a : Addr) (i : Nat) (h : Heap) : Prop := if k = true then h.IsTupleIter it a i else h.IsListIter it a i
def IsX (k : Bool) (a : Addr) (items : Array Value) (h : Heap) : Prop := if k = true then h.IsTuple a items else h.IsList a items
def itObj (k : Bool) (a : Addr) : Obj := { cls := .type (if k = true then "tuple_iterator" else "list_iterator"), data := .fields #[.ref a, .int 0 0] }
theorem ItAt.obj {k : Bool} {it a : Addr} {i : Nat} {h : Heap} (x : ItAt k it a i h) : ∃ o, h.get? it = some o ∧ ∀ v, o.data ≠ .cell v := by
  cases k with
  | true => obtain ⟨o, e, _, d⟩ := (show h.IsTupleIter it a i from x); exact ⟨o, e, fun v q => by rw [d] at q; cases q⟩
  | false => obtain ⟨o, e, _, d⟩ := (show h.IsListIter it a i from x); exact ⟨o, e, fun v q => by rw [d] at q; cases q⟩
theorem ItAt.lt {k : Bool} {it a : Addr} {i : Nat} {h : Heap} (x : ItAt k it a i h) : it < h.objs.size := by
  obtain ⟨o, e, _⟩ := x.obj; exact Heap.lt_size e
theorem ItAt.keep {k : Bool} {it a : Addr} {i : Nat} {h h' : Heap} (x : ItAt k it a i h) (q : ∀ o, h.get? it = some o → h'.get? it = some o) : ItAt k it a i h' := by
  cases k with
  | true => exact (show h.IsTupleIter it a i from x).at q
  | false => exact (show h.IsListIter it a i from x).at q
theorem draws_x {prog : Program} {w : World} {A : Around} (k : Bool) (hh : A.handled = none) (it a : Addr) (hne : a ≠ it) (items : Array Value) :
    Draws prog w A it [it, a] items.size (fun i v => items[i]? = some v) (fun i h => ItAt k it a i h ∧ IsX k a items h) := by
  cases k with
  | true => exact Draws.tuple hh it a hne items
  | false => exact Draws.list hh it a hne items
theorem begins_x (k : Bool) (a : Addr) (items : Array Value) : Begins (.ref a) (itObj k a) (IsX k a items) := by
  cases k with
  | true => exact begins_tuple a items
  | false => exact begins_list a items
theorem SqX.is {X : Cx} {pins : List (Addr × Obj)} {σ : L2.St} {H : Hp} {s : Shared} {k : Bool} {a : Addr} {xs : List V} (I : Inv X pins σ H s) (h : SqX X.K k H a xs) : ∃ its : List Value, Vals xs its ∧ IsX k a its.toArray s.heap := by
  cases k with
  | true => obtain ⟨its, rv, p, _⟩ := I.tuple (show SqT X.K H a xs from h); exact ⟨its, rv, p⟩
  | false => obtain ⟨its, rv, p, _⟩ := I.list (show SqL X.K H a xs from h); exact ⟨its, rv, p.isList⟩
theorem IsX.ne {k j : Bool} {it a b : Addr} {i : Nat} {items : Array Value} {h : Heap} (x : IsX k a items h) (y : ItAt j it b i h) : a ≠ it := fun e => by
  subst e
  cases k with
  | true =>
    obtain ⟨o, h1, h2, _⟩ := (show h.IsTuple a items from x)
    cases j with
    | true => obtain ⟨o', h3, h4, _⟩ := (show h.IsTupleIter a b i from y); rw [h3] at h1; cases h1; rw [h4] at h2; simp at h2
    | false => obtain ⟨o', h3, h4, _⟩ := (show h.IsListIter a b i from y); rw [h3] at h1; cases h1; rw [h4] at h2; simp at h2
  | false =>
    obtain ⟨o, h1, h2, _⟩ := (show h.IsList a items from x)
    cases j with
    | true => obtain ⟨o', h3, h4, _⟩ := (show h.IsTupleIter a b i from y); rw [h3] at h1; cases h1; rw [h4] at h2; simp at h2
    | false => obtain ⟨o', h3, h4, _⟩ := (show h.IsListIter a b i from y); rw [h3] at h1; cases h1; rw [h4] at h2; simp at h2
theorem IsX.lt {k : Bool} {a : Addr} {items : Array Value} {h : Heap} (x : IsX k a items h) : a < h.objs.size := by
  cases k with
  | true => obtain ⟨o, h1, _⟩ := (show h.IsTuple a items from x); exact Heap.lt_size h1
  | false => obtain ⟨o, h1, _⟩ := (show h.IsList a items from x); exact Heap.lt_size h1
theorem SqX.same {K : PySem.W.Frag} {k : Bool} {H H' : Hp} {a : Addr} {xs : List V} (e : Same H H') (h : SqX K k H a xs) : SqX K k H' a xs := by
  cases k with
  | true => exact sqT_same e h
  | false =>
    rcases (show SqL K H a xs from h) with (h | ⟨o, h⟩) | h
    · exact .inl (.inl (e _ _ h))
    · exact .inl (.inr ⟨o, e _ _ h⟩)
    · exact .inr h
/-- the items at each turn in a new pair -/
def ItzX (G : Hp → Prop) (xs ys : List V) : It :=
  ⟨fun i H => G H ∧ i < xs.length ∧ i < ys.length, fun i H v H' => ∃ T x y, v = .ref T ∧ H T = none ∧ H' = upd H T (.tup [x, y]) ∧ xs[i]? = some x ∧ ys[i]? = some y, fun i H => G H ∧ i = min xs.length ys.length⟩
theorem turn_zipX {P : Program} {w : World} {K : PySem.W.Frag} {elts : List Expr} {kk : Nat} {tpos : Pos} {a b : Addr} {xs ys : List V} {N : Nat} (k j : Bool) (ha : a < N) (hb : b < N) :
    Turn P w K (.Tuple elts kk tpos) (ItzX (fun H => SqX K k H a xs ∧ SqX K j H b ys) xs ys) [N + 4, N + 2, N + 3, N, N + 1] (N + 4)
      (fun i h => IsZip h (N + 4) (N + 2) (N + 3) .none ∧ IsTupOf2 h (N + 2) (.ref N) (.ref (N + 1)) ∧ (∃ x y, IsTupOf2 h (N + 3) x y) ∧ ItAt k N a i h ∧ ItAt j (N + 1) b i h) where
  mem := by simp
  obj := fun i h st c hc => by
    obtain ⟨hz, hTI, ⟨x, y, hTO⟩, h1, h2⟩ := st
    have e' : c = N + 4 ∨ c = N + 2 ∨ c = N + 3 ∨ c = N ∨ c = N + 1 := by simpa using hc
    rcases e' with q | q | q | q | q
    · rw [q]; exact ⟨_, hz, fun v q => nomatch q⟩
    · rw [q]; exact ⟨_, hTI, fun v q => nomatch q⟩
    · rw [q]; exact ⟨_, hTO, fun v q => nomatch q⟩
    · rw [q]; exact h1.obj
    · rw [q]; exact h2.obj
  keep := fun i h h' st q => by
    obtain ⟨hz, hTI, ⟨x, y, hTO⟩, h1, h2⟩ := st
    exact ⟨q (N + 4) (by simp) _ hz, q (N + 2) (by simp) _ hTI, ⟨x, y, q (N + 3) (by simp) _ hTO⟩, h1.keep fun o z => q N (by simp) o z, h2.keep fun o z => q (N + 1) (by simp) o z⟩
  item := by
    intro X hP hw hK hc i pins s σ H E I hf st hg
    subst hP hw hK
    obtain ⟨hz, hTI, ⟨x0, y0, hTO⟩, h1, h2⟩ := st
    obtain ⟨⟨hqx, hqy⟩, hlx, hly⟩ := hg
    obtain ⟨its, rv, p⟩ := hqx.is I
    obtain ⟨its2, rv2, p2⟩ := hqy.is I
    have S : ZipSep2 (N + 4) (N + 2) (N + 3) N (N + 1) (N :: [a]) ((N + 1) :: [b]) := zip_sep2 (fun c hc => by rw [List.mem_singleton] at hc; subst hc; exact ha) (fun c hc => by rw [List.mem_singleton] at hc; subst hc; exact hb)
    have hl1 := rv.length
    have hl2 := rv2.length
    refine wpAny_pyNext_zipD2_item S (draws_x (A := X.A.in1) k (I.ok.hd hc) N a (p.ne h1) its.toArray) (draws_x (A := X.A.in1) j (I.ok.hd hc) (N + 1) b (p2.ne h2) its2.toArray) hz hTI hTO ⟨h1, p⟩ ⟨h2, p2⟩ (by rw [List.size_toArray]; omega) (by rw [List.size_toArray]; omega) fun u u2 h' tk e1 e2 z' TO' st1 st2 hT hsz hk => ?_
    have e1 : its[i]? = some u := by simpa using e1
    have e2 : its2[i]? = some u2 := by simpa using e2
    obtain ⟨x, hx⟩ : ∃ x, xs[i]? = some x := ⟨_, List.getElem?_eq_getElem hlx⟩
    obtain ⟨y, hy⟩ : ∃ y, ys[i]? = some y := ⟨_, List.getElem?_eq_getElem hly⟩
    obtain ⟨u', hu', ru⟩ := rv.get hx
    obtain ⟨u2', hu2', ru2⟩ := rv2.get hy
    rw [e1] at hu'; cases hu'
    rw [e2] at hu2'; cases hu2'
    have hzl : N + 4 < s.heap.objs.size := Heap.lt_size hz
    refine ⟨_, rfl, wpAny_letOwnedTupleGo_zip (s := { s with heap := h', toks := tk }) z' fun h'' z'' sb => ?_⟩
    have hT2 : h''.get? s.heap.objs.size = some { cls := .type "tuple", data := .seq #[u, u2] } := (sb.2 _ (Nat.ne_of_gt hzl)).trans hT
    have new : ObjOk X.prog X.w (upd H s.heap.objs.size (.tup [x, y])) h'' s.heap.objs.size (.tup [x, y]) :=
      ⟨by show 2 ≤ sizeLine; decide, [u, u2], .cons ru (.cons ru2 .nil), ⟨_, hT2, rfl, _, rfl⟩⟩
    have I1 : Inv X pins σ (upd H s.heap.objs.size (.tup [x, y])) { s with heap := h'', toks := tk } :=
      I.turnedNew (t' := tk) (ch := [N + 4, N + 2, N + 3, N, N + 1]) (fun c o hb q => (sb.2 c (fun q' => hb (by simp [q']))).trans (hk c o (fun q' => hb (by simp [q'])) (fun q' => hb (by simp [q'])) (fun q' => hb (by simp [q'])) (fun q' => hb (by simp [q'])) q)) hf (Nat.le_refl _) new
    refine ⟨.ref s.heap.objs.size, _, I1, rfl, ⟨_, x, y, rfl, I.hok.fresh (Nat.le_refl _), rfl, hx, hy⟩, ⟨z'', ?_, ⟨u, u2, ?_⟩, ?_, ?_⟩, fun c hcm => ?_⟩
    · exact (sb.2 _ S.TIz).trans (hk _ _ S.TIz S.TITO S.TIi1 S.TIi2 hTI)
    · exact (sb.2 _ S.TOz).trans TO'
    · exact st1.1.keep fun o q => (sb.2 _ S.zi1.symm).trans q
    · exact st2.1.keep fun o q => (sb.2 _ S.zi2.symm).trans q
    · have hlt : c < s.heap.objs.size := by
        have e' : c = N + 4 ∨ c = N + 2 ∨ c = N + 3 ∨ c = N ∨ c = N + 1 := by simpa using hcm
        have : c ≤ N + 4 := by rcases e' with q | q | q | q | q <;> rw [q] <;> first | exact Nat.le_refl _ | exact Nat.add_le_add_left (by decide) _ | exact Nat.le_add_right _ _
        exact Nat.lt_of_le_of_lt this hzl
      rw [upd_ne (Nat.ne_of_lt hlt)]
      exact (hf c hcm).1
  done := by
    intro X hP hw hK hc i pins s σ H E I hf st hg
    subst hP hw hK
    obtain ⟨hz, hTI, ⟨x0, y0, hTO⟩, h1, h2⟩ := st
    obtain ⟨⟨hqx, hqy⟩, hend⟩ := hg
    obtain ⟨its, rv, p⟩ := hqx.is I
    obtain ⟨its2, rv2, p2⟩ := hqy.is I
    have S : ZipSep2 (N + 4) (N + 2) (N + 3) N (N + 1) (N :: [a]) ((N + 1) :: [b]) := zip_sep2 (fun c hc => by rw [List.mem_singleton] at hc; subst hc; exact ha) (fun c hc => by rw [List.mem_singleton] at hc; subst hc; exact hb)
    have l1 := rv.length
    have l2 := rv2.length
    exact wpAny_pyNext_zipD2_end S (draws_x (A := X.A.in1) k (I.ok.hd hc) N a (p.ne h1) its.toArray) (draws_x (A := X.A.in1) j (I.ok.hd hc) (N + 1) b (p2.ne h2) its2.toArray) hz hTI hTO ⟨h1, p⟩ ⟨h2, p2⟩ (by rw [List.size_toArray]; omega) (by rw [List.size_toArray]; omega) (by rw [List.size_toArray, List.size_toArray]; omega)
      fun h' tk hk => ⟨rfl, I.turnedL (t' := tk) (ch := [N + 4, N + 2, N + 3, N, N + 1]) (fun c o hb q =>
      hk c o (fun q' => hb (by simp [q'])) (fun q' => hb (by simp [q'])) (fun q' => hb (by simp [q'])) (fun q' => hb (by simp [q'])) q) hf⟩
  self := fun A i s Q E st h => wpAny_pyIter_zip st.1 h
theorem walk_zipX {xs ys : List V} {G : Hp → Prop} : Walk (ItzX G xs ys) (min xs.length ys.length) G (YPair (fun i => xs[i]?) (fun i => ys[i]?)) := by
  refine ⟨fun i _ hi q => ⟨q, by omega, by omega⟩, fun _ q => ⟨q, rfl⟩, fun i H v H' _ q y => ?_⟩
  obtain ⟨T, x, z, h1, h2, h3, h4, h5⟩ := y
  exact ⟨T, x, z, h1, h2, h3, h4, h5⟩
def seqD : D → Option (List D)
  | .lst ds => some ds
  | .tup ds => some ds
  | _ => none
def zipM : List D → M (List D)
  | [d, e] => fun Q _ => match seqD d, seqD e with
    | some xs, some ys => Q (pairs xs ys)
    | _, _ => False
  | _ => fail
def iZp (l : CL) : CI := fun ρ => bnd (l ρ) zipM
theorem seq_of {K : PySem.W.Frag} {F : Hp} {v : V} {d : D} {ds : List D} (r : Rep K F v d) (h : seqD d = some ds) : ∃ (k : Bool) (a : Addr) (xs : List V), v = .ref a ∧ SqX K k F a xs ∧ RepL K F xs ds := by
  cases r <;> simp only [seqD, Option.some.injEq] at h <;> first | cases h | skip
  · rename_i a vs h1 rl; exact ⟨false, a, vs, rfl, SqL.of h1, rl⟩
  · rename_i a vs h1 rl; exact ⟨true, a, vs, rfl, h1, rl⟩
theorem zip_pair {K : PySem.W.Frag} {F : Hp} {xs ys : List V} {ds es : List D} (r : RepL K F xs ds) (r2 : RepL K F ys es) : ∀ i d, (pairs ds es)[i]? = some d → ∃ a b, d = .tup [a, b] ∧ (∀ x, (fun i : Nat => xs[i]?) i = some x → Rep K F x a) ∧ ∀ x, (fun i : Nat => ys[i]?) i = some x → Rep K F x b := by
  intro i d e
  obtain ⟨a, b, rfl, h1, h2⟩ := pairs_at e
  refine ⟨a, b, rfl, fun x hx => ?_, fun x hx => ?_⟩
  · obtain ⟨v, q1, q2⟩ := r.get h1
    have hx : xs[i]? = some x := hx
    rw [q1] at hx; cases hx; exact q2
  · obtain ⟨v, q1, q2⟩ := r2.get h2
    have hx : ys[i]? = some x := hx
    rw [q1] at hx; cases hx; exact q2
section
variable {X : Cx} {E : EX} {e e2 : Expr} {cl : CL} {p pos tpos : Pos} {elts : List Expr} {kk : Nat}
theorem ri_zip (hg : Gl X "zip") (hm : X.mg "zip" = none) (ha : PA X [e, e2] (rdL X.K E 2 cl)) (hs : starEach [e, e2] X.env = (false, eval e X.env) :: starEach [e2] X.env) (hpl : (backTo pos (starEach [e2] X.env)).any (·.1) = false) :
    PI X (.Tuple elts kk tpos) (.Call (.Name "zip" p) [e, e2] [] pos) (rdI X.K E (iZp cl)) := by
  refine ⟨fun pins s σ H R I ⟨F, ρ, Q, re, h, k⟩ => ?_⟩
  refine Call_ (ld_blt I hg hm PyProof.Rows.boot_zip (PyProof.Rows.callWith_type1 (thn (ha.run pos pins s σ H (fun vs H1 => ∃ F1 ds, Grow F H F1 H1 ∧ RepL X.K F1 vs ds ∧ vs.length = 2 ∧ zipM ds Q (E.at ρ)) I
    ⟨F, ρ, _, re, h, fun vs H1 F1 ds g1 r1 hn q => ⟨F1, ds, g1, r1, hn, q⟩⟩) ?_) hs hpl))
  rintro us s1 ⟨vs, H1, I1, r1, F1, ds, g1, rl, hn, q⟩
  obtain ⟨v, w, rfl⟩ := len2 hn
  obtain ⟨d, d2, rfl, rp, rp2⟩ := rl.two
  have q : (match seqD d, seqD d2 with | some xs, some ys => Q (pairs xs ys) | _, _ => False) := q
  split at q
  · rename_i ds es e1 e2
    obtain ⟨kx, a, xs, rfl, sx, rx⟩ := seq_of rp e1
    obtain ⟨ky, b, ys, rfl, sy, ry⟩ := seq_of rp2 e2
    cases r1 with
    | cons r rr =>
      cases rr with
      | cons r' rr =>
        cases rr
        cases r
        cases r'
        obtain ⟨its, rv, p1⟩ := (sx.same g1.fh).is I1
        obtain ⟨its2, rv2, p2⟩ := (sy.same g1.fh).is I1
        refine zip_begins2 (begins_x kx a its.toArray) (begins_x ky b its2.toArray) p1 p2 fun h' hz hTI hTO h1 h2 hsz hk => wpAny_pyIter_zip hz ?_
        have I2 : Inv X pins σ H1 { s1 with heap := h' } := I1.kept (t' := s1.toks) hk
        have t1 : ItAt kx s1.heap.objs.size a 0 h' := by
          cases kx with
          | true => exact ⟨_, h1, rfl, rfl⟩
          | false => exact ⟨_, h1, rfl, rfl⟩
        have t2 : ItAt ky (s1.heap.objs.size + 1) b 0 h' := by
          cases ky with
          | true => exact ⟨_, h2, rfl, rfl⟩
          | false => exact ⟨_, h2, rfl, rfl⟩
        refine ⟨_, _, _, _, H1, rfl, I2, turn_zipX (xs := xs) (ys := ys) kx ky p1.lt p2.lt, ⟨hz, hTI, ⟨_, _, hTO⟩, t1, t2⟩, fun c hcm => ?_, ?_⟩
        · have e' : c = s1.heap.objs.size + 4 ∨ c = s1.heap.objs.size + 2 ∨ c = s1.heap.objs.size + 3 ∨ c = s1.heap.objs.size ∨ c = s1.heap.objs.size + 1 := by simpa using hcm
          have hle : s1.heap.objs.size ≤ c := by
            rcases e' with z | z | z | z | z <;> rw [z] <;> first | exact Nat.le_refl _ | exact Nat.le_add_right _ _
          exact I1.fpOk hle (I1.hok.fresh hle)
        · refine k _ H1 F1 _ g1 (ItOk.of_pair (G := fun H => SqX X.K kx H a xs ∧ SqX X.K ky H b ys) (by rw [pairs_len, ← rx.length, ← ry.length]; exact walk_zipX) (fun H s => ⟨sx.same s, sy.same s⟩) (zip_pair rx ry)) q
  · exact q.elim
end
def iZip : IR := fun r g tg e => match tg, e with
  | .Tuple _ _ _, .Call (.Name x _) [a, b] [] _ => if spB g x "zip" = true then (lOf r g [a, b]).map iZp else none
  | _, _ => none
theorem iZip_ok : IrOk iZip := by
  intro r R X g E tg e c ok h
  unfold iZip at h
  split at h
  · split at h
    · rename_i hs
      obtain ⟨rfl, q1, q2⟩ := spB_is ok hs
      obtain ⟨l, h1, rfl⟩ := map_some h
      obtain ⟨h2, h3⟩ := lOf_ok (E := E) R ok h1
      rw [List.all_cons, Bool.and_eq_true] at h3
      exact ri_zip q1 q2 h2 (plain_star h3.1) (plains_pl h3.2)
    · cases h
  · cases h
end DL
namespace DL
open PySem L2 PySem.Spec PyProof.Rows

/-! ### sorted(set(a tuple of ints)) -/
def rSetI (w : World) (K : PySem.W.Frag) : List V → Hp → VK → Prop := fun xs H Q => ∃ (p : Addr) (ns : List Int), xs = [.ref p] ∧ SqT K H p (ns.map V.int) ∧ ns.length < 64 ∧
  ∀ c n, n ≤ ns.length → H c = none → Q (.ref c) (upd H c (SetO w c (fun j => decide (j ∈ ns)) n))
theorem cr_setI {X : Cx} (hc : X.calm = true) : CallR X (.type "set") (rSetI X.w X.K) := by
  intro pins s σ H xs us Q I r h
  obtain ⟨p, ns, rfl, hq, hl, q⟩ := h
  rw [Vals.ref1 r]
  obtain ⟨its, rv, pt, hz⟩ := I.tuple hq
  have hi : IntsAre its.toArray.toList ns := ints_of_vals rv
  refine call_set_tupI ns (I.ok.hd hc) (show s.heap.IsTuple p its.toArray from pt) hi (by unfold scanBound; omega) fun h' tk c R1 hcn k => ?_
  have hn : H s.heap.objs.size = none := I.hok.fresh (Nat.le_refl _)
  exact ⟨.ref _, upd H s.heap.objs.size (SetO X.w s.heap.objs.size _ c), I.laid (t' := tk) k (Nat.le_refl _) (setO_new R1), rfl, q _ c hcn hn⟩
def srtSetM : D → M (D × Bool)
  | .tup ds => fun Q _ => match intsD ds with
    | some ns => ns.length < 64 ∧ ∀ L : List Int, L.Pairwise (· < ·) → (∀ k, k ∈ L ↔ k ∈ ns) → Q (.lst (L.map .int), true)
    | none => False
  | _ => fail
def cSrtSet (a : CB) : CV := fun ρ => bnd (a ρ) srtSetM
theorem re_srtSet {X : Cx} {E : EX} {e : Expr} {xa : CB} {p1 p2 q1 q2 : Pos} (hc : X.calm = true) (ha : PE X e (rdF X.K E xa)) (hg : Gl X "sorted") (hm : X.mg "sorted" = none) (hg2 : Gl X "set") (hm2 : X.mg "set" = none)
    (hs : starEach [e] X.env = [(false, eval e X.env)]) : PE X (.Call (.Name "sorted" p1) [.Call (.Name "set" p2) [e] [] q2] [] q1) (rdV X.K E (cSrtSet xa)) :=
  (pe_callB (cr_sortedSet hc) hg hm (by kernel_rfl) (pa_cons (pe_callTy (cr_setI hc) hg2 hm2 (by kernel_rfl) (pa_cons ha pa_nil hs) (by decide) (by decide) hs rfl) pa_nil rfl) (by decide) (by decide) rfl rfl).imp fun σ H Q' ⟨F, ρ, Q, re, h, k⟩ =>
    ⟨F, ρ, _, re, h, fun v H1 F1 d g1 r1 q1 => by
      unfold srtSetM at q1
      split at q1
      · rename_i ds
        split at q1
        · rename_i ns en
          cases r1 with
          | @tup p vs _ hp rl =>
            have ev := rl.ints en
            subst ev
            refine ⟨p, ns, rfl, sqT_same g1.fh hp, q1.1, fun c n hn hcn => ⟨c, _, n, rfl, upd_same, Nat.lt_of_le_of_lt hn q1.1, fun ns' p' hs hmem hlen hp' => ?_⟩⟩
            have ga := Grow.own g1.fh hcn (SetO X.w c (fun j => decide (j ∈ ns)) n)
            have gb := Grow.own ga.fh hp' (.lst (ns'.map V.int))
            refine k _ _ F1 (.lst (ns'.map .int), true) ((g1.trans ga).trans gb) (Val.own (d := .lst (ns'.map .int)) ((g1.trans ga).h.free hp') (ga.fh.free hp') (Own.mkL upd_same (repL_ints ns'))) ?_
            exact q1.2 ns' hs fun z => by rw [hmem z, decide_eq_true_eq]
        · exact q1.elim
      · exact q1.elim⟩
def vSrtSet : VR := fun r g e => match e with
  | .Call (.Name x _) [.Call (.Name y _) [a] [] _] [] _ => if (globB g x && globB g y && decide (x = "sorted") && decide (y = "set") && plainE a) = true then match g.gl.lookup x, g.gl.lookup y with
    | some (.bi _ _), some (.ty _ _) => (fOf r g a).map cSrtSet
    | _, _ => none else none
  | _ => none
theorem vSrtSet_ok : VrOk vSrtSet := by
  intro r R X g E e c ok h
  unfold vSrtSet at h
  split at h
  · split at h
    · rename_i hb
      simp only [Bool.and_eq_true, decide_eq_true_eq] at hb
      obtain ⟨⟨⟨⟨h1, h2⟩, rfl⟩, rfl⟩, hp⟩ := hb
      split at h
      · rename_i e1 e2
        obtain ⟨hm, _⟩ := ok.gl _ _ e1
        obtain ⟨hm2, _⟩ := ok.gl _ _ e2
        obtain ⟨x, h3, rfl⟩ := map_some h
        exact re_srtSet ok.calm (fOf_ok R ok h3) (globB_is ok h1).1 hm (globB_is ok h2).1 hm2 (plain_star hp)
      · cases h
    · cases h
  · cases h

/-! ### xs[::-1] -/
def revM : D → M (D × Bool)
  | .lst ds => ret (.lst ds.reverse, true)
  | _ => fail
def cRev (a : CB) : CV := fun ρ => bnd (a ρ) revM
theorem RepL.reverse {K : PySem.W.Frag} {H : Hp} : ∀ {vs : List V} {ds : List D}, RepL K H vs ds → RepL K H vs.reverse ds.reverse
  | _, _, .nil => .nil
  | _, _, .cons r t => by
    rw [List.reverse_cons, List.reverse_cons]
    exact (RepL.reverse t).append (.cons r .nil)
theorem re_rev {X : Cx} {E : EX} {e : Expr} {xa : CB} {k : Nat} {p1 p2 p3 pos : Pos} (ha : PE X e (rdB X.K E xa)) : PE X (.Subscript e (.Slice none none (some (.UnaryOp .USub (.Constant (.int 1) k p1) p2)) p3) pos) (rdV X.K E (cRev xa)) :=
  (pe_revL ha).imp fun σ H Q' ⟨F, ρ, Q, re, h, k⟩ => ⟨F, ρ, _, re, h, fun v H1 F1 d g1 b1 q1 => by
    unfold revM at q1
    split at q1
    · obtain ⟨a, vs, rfl, ha, ra⟩ := b1.lst g1.fh
      exact ⟨a, vs, rfl, SqL.of ha, new_own g1.fh ra.reverse q1 fun w F2 H2 r g2 v2 q2 => k w H2 F2 r (g1.trans g2) (v2.back g1) q2⟩
    · exact q1.elim⟩
def vRev : VR := fun r g e => match e with
  | .Subscript a (.Slice none none (some (.UnaryOp .USub (.Constant (.int 1) _ _) _)) _) _ => (bOf r g a).map cRev
  | _ => none
theorem vRev_ok : VrOk vRev := by
  intro r R X g E e c ok h
  unfold vRev at h
  split at h
  · obtain ⟨x, h1, rfl⟩ := map_some h
    exact re_rev (bOf_ok R ok h1)
  · cases h

/-! ### what is one's own, given out -/
def sRetOwn : SR := fun r g st => match st with
  | .Return (some (.Name x p)) _ => if g.ro = true then match slotOf g x with
    | some i => if i ∈ g.own then some (sRetO i) else (r.v g (.Name x p)).map sRetF
    | none => none else none
  | .Return (some e) _ => if g.ro = true then (r.v g e).map sRetF else none
  | _ => none
theorem sRetOwn_ok : SrOk sRetOwn := by
  intro r R X g E st c ok hp h
  unfold sRetOwn at h
  split at h
  · split at h
    · split at h
      · rename_i i hi
        split at h
        · cases h
          obtain ⟨h1, h2, h3, h4⟩ := slotOf_is hi
          exact rs_retO (by rw [ok.N]; exact h1) (by rw [ok.sc]; exact h2) h3 h4
        · obtain ⟨x, h1, rfl⟩ := map_some h
          exact rs_retF (R.v ok h1)
      · cases h
    · cases h
  · split at h
    · obtain ⟨x, h1, rfl⟩ := map_some h
      exact rs_retF (R.v ok h1)
    · cases h
  · cases h

/-! ### two clauses -/
/-- what a target leaves of one's own -/
def GSh (sl : List Nat) (g : CG) : Prop := ∀ d ρ Q E, g d ρ Q E → g d ρ (fun ρ' => Q ρ' ∧ ∀ i d z, ρ'[i]? = some (.ow d z) → i ∉ sl ∧ ρ[i]? = some (.ow d z)) E
def GsSh (sl : List Nat) (g : List D → Env → M Env) : Prop := ∀ d ρ Q E, g d ρ Q E → g d ρ (fun ρ' => Q ρ' ∧ ∀ i d z, ρ'[i]? = some (.ow d z) → i ∉ sl ∧ ρ[i]? = some (.ow d z)) E
theorem gsh_mono {g : CG} (hm : ∀ d ρ (Q Q' : Env → Prop) E, (∀ ρ, Q ρ → Q' ρ) → g d ρ Q E → g d ρ Q' E) : True := trivial
def GMo (g : CG) : Prop := ∀ d ρ (Q Q' : Env → Prop) E, (∀ ρ, Q ρ → Q' ρ) → g d ρ Q E → g d ρ Q' E
def GsMo (g : List D → Env → M Env) : Prop := ∀ d ρ (Q Q' : Env → Prop) E, (∀ ρ, Q ρ → Q' ρ) → g d ρ Q E → g d ρ Q' E
theorem gNm_sh (i : Nat) : GSh [i] (gNm i) ∧ GMo (gNm i) := by
  refine ⟨fun d ρ Q E h => ⟨h, fun j e z hj => ?_⟩, fun d ρ Q Q' E hq h => hq _ h⟩
  rcases set_at hj with ⟨_, _, q⟩ | ⟨hn, q⟩
  · cases q
  · exact ⟨by rw [List.mem_singleton]; exact hn, q⟩
theorem gsNil_sh : GsSh [] gsNil ∧ GsMo gsNil := by
  refine ⟨fun d ρ Q E h => ?_, fun d ρ Q Q' E hq h => ?_⟩
  · cases d with
    | nil => exact ⟨h, fun i e z q => ⟨by simp, q⟩⟩
    | cons _ _ => exact (show False from h).elim
  · cases d with
    | nil => exact hq _ h
    | cons _ _ => exact (show False from h).elim
theorem gsCons_sh {sl sl2 : List Nat} {g : CG} {gs : List D → Env → M Env} (h1 : GSh sl g ∧ GMo g) (h2 : GsSh sl2 gs ∧ GsMo gs) : GsSh (sl ++ sl2) (gsCons g gs) ∧ GsMo (gsCons g gs) := by
  refine ⟨fun d ρ Q E h => ?_, fun d ρ Q Q' E hq h => ?_⟩
  · cases d with
    | nil => exact (show False from h).elim
    | cons d ds =>
      have h : g d ρ (fun ρ' => gs ds ρ' Q E) E := h
      refine h1.2 d ρ _ _ E (fun ρ' q => ?_) (h1.1 d ρ _ E h)
      refine h2.2 ds ρ' _ _ E (fun ρ2 q2 => ⟨q2.1, fun i e z hz => ?_⟩) (h2.1 ds ρ' Q E q.1)
      obtain ⟨n2, w2⟩ := q2.2 i e z hz
      obtain ⟨n1, w1⟩ := q.2 i e z w2
      exact ⟨by rw [List.mem_append]; rintro (z | z); exact n1 z; exact n2 z, w1⟩
  · cases d with
    | nil => exact (show False from h).elim
    | cons d ds => exact h1.2 d ρ _ _ E (fun ρ' q => h2.2 ds ρ' _ _ E hq q) h
theorem gTp_sh {n : Nat} {sl : List Nat} {gs : List D → Env → M Env} (h : GsSh sl gs ∧ GsMo gs) : GSh sl (gTp n gs) ∧ GMo (gTp n gs) := by
  refine ⟨fun d ρ Q E q => ?_, fun d ρ Q Q' E hq q => ?_⟩
  · cases d with
    | tup ds => exact ⟨q.1, h.1 ds ρ Q E q.2⟩
    | _ => exact (show False from q).elim
  · cases d with
    | tup ds => exact ⟨q.1, h.2 ds ρ _ _ E hq q.2⟩
    | _ => exact (show False from q).elim
theorem gOf_sh {g : Sg} : ∀ {n : Nat} {e : Expr} {p : List Nat × CG}, gOf g n e = some p → GSh p.1 p.2 ∧ GMo p.2
  | 0, _, _, h => by simp [gOf] at h
  | n + 1, e, p, h => by
    unfold gOf at h
    split at h
    · split at h
      · split at h
        · rename_i i hi; cases h; exact gNm_sh i
        · cases h
      · cases h
    · rename_i es k tp
      split at h
      · rename_i hp
        split at h
        · rename_i s c hf
          cases h
          have main : ∀ (es : List Expr) (s : List Nat) (c : List D → Env → M Env), (es.foldr (fun e acc => match gOf g n e, acc with
              | some (s, c), some (s2, c2) => some (s ++ s2, gsCons c c2)
              | _, _ => none) (some ([], gsNil)) : Option (List Nat × (List D → Env → M Env))) = some (s, c) → GsSh s c ∧ GsMo c := by
            intro es
            induction es with
            | nil => intro s c h; cases h; exact gsNil_sh
            | cons e es ih =>
              intro s c h
              rw [List.foldr_cons] at h
              split at h
              · rename_i s1 c1 s2 c2 h1 h2
                cases h
                exact gsCons_sh (gOf_sh (p := (s1, c1)) h1) (ih _ _ h2)
              · cases h
          exact gTp_sh (main es s c hf)
        · cases h
      · cases h
    · cases h
theorem REnv.extChg {K : PySem.W.Frag} {B F0 F H : Hp} {σ : L2.St} {ρ : Env} (re : REnv K B F0 F H σ ρ) {p : Addr} {o : HO} (hB : B p = none) (hF : F p = none) (ne : ∀ (i : Nat) (d : D) (z : Option Addr), ρ[i]? = some (Cell.ow d z) → σ[i]? ≠ some (some (V.ref p))) : REnv K B F0 F (upd H p o) σ ρ where
  bh := fun b u z => by rw [upd_ne (ne_of_none z hB)]; exact re.bh b u z
  f0 := re.f0
  fh := fun b u z => by rw [upd_ne (ne_of_none z hF)]; exact re.fh b u z
  fr := re.fr
  len := re.len
  cell := fun i c e => by
    obtain ⟨w, w1, w2⟩ := re.cell i c e
    refine ⟨w, w1, ?_⟩
    cases c with
    | no => trivial
    | sh d => exact w2
    | ow d z =>
      obtain ⟨q, rfl, q1, q2, q3, q4⟩ := w2
      exact ⟨q, rfl, q1, q2, q3.upd_ne (fun h => by subst h; exact ne i d z e w1), q4⟩
  dis := re.dis
def lcA (g : CG) (t : CT) (e : CB) (ρ : Env) : List D → List D → M (List D)
  | [], acc => ret acc
  | d :: ds, acc => bnd (g d ρ) fun ρ' => bnd (t ρ') fun b => if b = true then bnd (e ρ') fun x Q E => acc.length < sizeLine ∧ lcA g t e ρ ds (acc ++ [x]) Q E else lcA g t e ρ ds acc
def lcM2 (g : CG) (t : CT) (ci : CI) (g1 : CG) (t1 : CT) (vs1 : List Nat) (e : CB) (ρ : Env) : List D → List D → M (List D)
  | [], acc => ret acc
  | d :: ds, acc => bnd (g d ρ) fun ρ' => bnd (t ρ') fun b => if b = true then bnd (ci ρ') fun ds1 => bnd (lcA g1 t1 e (wipeE ρ' vs1) ds1 acc) fun acc' => lcM2 g t ci g1 t1 vs1 e ρ ds acc' else lcM2 g t ci g1 t1 vs1 e ρ ds acc
def cLc2 (vs vs1 : List Nat) (it : CI) (g : CG) (t : CT) (ci : CI) (g1 : CG) (t1 : CT) (e : CB) : CV := fun ρ => bnd (it ρ) fun ds Q E => lcM2 g t ci g1 t1 vs1 e (wipeE ρ vs) ds [] (fun r => Q (.lst r, true)) (fun _ => False)
theorem wipeE_ow {ρ : Env} {i : Nat} {d : D} {z : Option Addr} : ∀ {vs : List Nat}, (wipeE ρ vs)[i]? = some (.ow d z) → i ∉ vs ∧ ρ[i]? = some (.ow d z)
  | [], h => ⟨by simp, h⟩
  | v :: vs, h => by
    rcases set_at (show ((wipeE ρ vs).set v .no)[i]? = _ from h) with ⟨_, _, q⟩ | ⟨hn, q⟩
    · cases q
    · obtain ⟨a, b⟩ := wipeE_ow q
      exact ⟨by rw [List.mem_cons]; rintro (z | z); exact hn z; exact a z, b⟩
theorem lc2_imp {K : PySem.W.Frag} {E : EX} {ci c1 : CI} {g g1 : CG} {t t1 : CT} {xe : CB} {vs : List Nat} {sl sl1 : List Nat} {σ : L2.St} {H : Hp} {Q' : VK} (hsl : ∀ i ∈ sl, i ∈ vs) (gsh : GSh sl g) (h : rdV K E (cLc2 vs sl1 ci g t c1 g1 t1 xe) σ H Q') :
    tLc2 (rdI K E ci) (rdG K E.no sl g) (rdT K E.no t) (rdI K E.no c1) (rdG K E.no sl1 g1) (rdT K E.no t1) (rdF K E.no xe) vs sl1 σ H Q' := by
  obtain ⟨F, ρ, Q, re, h, k⟩ := h
  refine ⟨F, ρ, _, re, h, fun J H1 F1 ds gr1 io q => ?_⟩
  intro Dn hD
  have re1 := re.grow gr1
  have hBD : E.B Dn = none := re1.bh.free hD
  refine ⟨fun i m H2 => m = ds.length - i ∧ i ≤ ds.length ∧ ∃ F2 acc out, Grow F1 H1 F2 H2 ∧ F2 Dn = none ∧ H2 Dn = some (.lst acc) ∧ RepL K F2 acc out ∧ lcM2 g t c1 g1 t1 sl1 xe (wipeE ρ vs) (ds.drop i) out (fun r => Q (.lst r, true)) (fun _ => False),
    ⟨ds.length, by simp, Nat.zero_le _, F1, [], [], Grow.own gr1.fh hD _, gr1.fh.free hD, upd_same, .nil, q⟩, ?_⟩
  rintro i m H2 ⟨rfl, hi, F2, acc, out, g2, fD, hDn, ra, q2⟩
  obtain ⟨i1, i2⟩ := io F2 H2 g2.f g2.fh
  have st : ∀ {Fa Ha F' H' : Hp} {acc : List V}, Fa Dn = none → Ha Dn = some (.lst acc) → Grow Fa Ha F' H' → F' Dn = none ∧ H' Dn = some (.lst acc) := fun {Fa Ha F' H' acc} hf hh gg => by
    refine ⟨?_, gg.h _ _ hh⟩
    cases z : F' Dn with
    | none => rfl
    | some u =>
      rcases gg.nw Dn u z with w | w
      · rw [hf] at w; cases w
      · rw [hh] at w; cases w
  -- the new list grows
  have put : ∀ {F' H' : Hp} {o : HO}, Grow F1 H1 F' H' → F' Dn = none → Grow F1 H1 F' (upd H' Dn o) := fun {F' H' o} gg s1 => by
    refine ⟨fun b u z => ?_, gg.f, fun b u z => ?_, gg.nw⟩
    · rw [upd_ne (ne_of_none z hD)]; exact gg.h b u z
    · rw [upd_ne (ne_of_none z s1)]; exact gg.fh b u z
  by_cases hlt : i < ds.length
  · have e : ds[i]? = some ds[i] := List.getElem?_eq_getElem hlt
    obtain ⟨go, yl⟩ := i2 i _ e
    rw [List.drop_eq_getElem_cons hlt] at q2
    refine .inr ⟨go, fun H' => ∃ F2 acc out, Grow F1 H1 F2 H' ∧ F2 Dn = none ∧ H' Dn = some (.lst acc) ∧ RepL K F2 acc out ∧ lcM2 g t c1 g1 t1 sl1 xe (wipeE ρ vs) (ds.drop (i + 1)) out (fun r => Q (.lst r, true)) (fun _ => False),
      fun H' ⟨F3, a3, o3, w⟩ => ⟨ds.length - (i + 1), by omega, rfl, hlt, F3, a3, o3, w⟩, fun x H3 y => ?_⟩
    obtain ⟨F3, g3, r3⟩ := yl x H3 y
    have re3 := (re.grow ((gr1.trans g2).trans g3)).wipe vs
    refine ⟨F3, _, _, _, re3, r3, gsh _ _ _ _ q2, fun σ4 ρ4 l4 k4 re4 q4 => ⟨?_, ?_⟩⟩
    · rw [← wipe_idem (σ := σ)]
      exact wipe_eq l4 fun j hj => k4 j fun z => hj (hsl j z)
    · obtain ⟨q4, own4⟩ := q4
      -- nobody's own is the new list
      have ne4 : ∀ (j : Nat) (d : D) (z : Option Addr), ρ4[j]? = some (Cell.ow d z) → σ4[j]? ≠ some (some (V.ref Dn)) := fun j d z hj hs => by
        obtain ⟨n1, w1⟩ := own4 j d z hj
        obtain ⟨n2, w2⟩ := wipeE_ow w1
        rw [k4 j n1, wipe_out n2] at hs
        obtain ⟨v, h1, p, rfl, _, _, h2, _⟩ := re1.cell j _ w2
        rw [hs] at h1
        cases h1
        obtain ⟨u, hu⟩ := h2.there
        rw [hD] at hu; cases hu
      refine ⟨F3, ρ4, _, re4, q4, fun b H5 F5 g5 q5 => ?_⟩
      have g25 := g2.trans (g3.trans g5)
      obtain ⟨s5, t5⟩ := st (st fD hDn g3).1 (st fD hDn g3).2 g5
      have ra5 := ra.mono (g3.trans g5).f
      cases b with
      | false =>
        show ∃ F2 acc out, _
        exact ⟨F5, acc, out, g25, s5, t5, ra5, q5⟩
      | true =>
        show rdI K E.no c1 σ4 H5 _
        refine ⟨F5, ρ4, _, re4.grow g5, (show bnd (c1 ρ4) _ _ (fun _ => False) from q5), fun J1 H6 F6 es g6 io1 q6 => ?_⟩
        obtain ⟨s6, t6⟩ := st s5 t5 g6
        refine ⟨fun j m H7 => m = es.length - j ∧ j ≤ es.length ∧ ∃ F7 acc out, Grow F1 H1 F7 H7 ∧ Same F6 F7 ∧ REnv K E.B E.F0 F7 H7 σ4 ρ4 ∧ F7 Dn = none ∧ H7 Dn = some (.lst acc) ∧ RepL K F7 acc out ∧ lcA g1 t1 xe (wipeE ρ4 sl1) (es.drop j) out (fun acc' => lcM2 g t c1 g1 t1 sl1 xe (wipeE ρ vs) (ds.drop (i + 1)) acc' (fun r => Q (.lst r, true)) (fun _ => False)) (fun _ => False),
          ⟨es.length, by simp, Nat.zero_le _, F6, acc, out, g25.trans g6, Same.refl _, (re4.grow g5).grow g6, s6, t6, ra5.mono g6.f, q6⟩, ?_⟩
        rintro j m H7 ⟨rfl, hj, F7, acc7, out7, g7, sm7, re7, s7, t7, ra7, q7⟩
        obtain ⟨k1, k2⟩ := io1 F7 H7 sm7 g7.fh
        by_cases hjl : j < es.length
        · obtain ⟨go1, yl1⟩ := k2 j _ (List.getElem?_eq_getElem hjl)
          rw [List.drop_eq_getElem_cons hjl] at q7
          refine .inr ⟨go1, fun H' => ∃ F7 acc out, Grow F1 H1 F7 H' ∧ Same F6 F7 ∧ REnv K E.B E.F0 F7 H' σ4 ρ4 ∧ F7 Dn = none ∧ H' Dn = some (.lst acc) ∧ RepL K F7 acc out ∧ lcA g1 t1 xe (wipeE ρ4 sl1) (es.drop (j + 1)) out (fun acc' => lcM2 g t c1 g1 t1 sl1 xe (wipeE ρ vs) (ds.drop (i + 1)) acc' (fun r => Q (.lst r, true)) (fun _ => False)) (fun _ => False),
            fun H' ⟨F8, a8, o8, w⟩ => ⟨es.length - (j + 1), by omega, rfl, hjl, F8, a8, o8, w⟩, fun x H8 y => ?_⟩
          obtain ⟨F8, g8, r8⟩ := yl1 x H8 y
          have re8 := (re7.grow g8).wipe sl1
          refine ⟨F8, _, _, _, re8, r8, q7, fun σ9 ρ9 l9 k9 re9 q9 => ⟨?_, F8, ρ9, _, re9, q9, fun b H10 F10 g10 q10 => ?_⟩⟩
          · rw [← wipe_idem (σ := σ4)]
            exact wipe_eq l9 fun j hj => k9 j hj
          · have g810 := g8.trans g10
            obtain ⟨s10, t10⟩ := st s7 t7 g810
            cases b with
            | false =>
              show ∃ F2 acc out, _
              exact ⟨F10, acc7, out7, g7.trans g810, sm7.trans g810.f, re7.grow g810, s10, t10, ra7.mono g810.f, q10⟩
            | true =>
              show rdF K E.no xe σ9 H10 _
              refine ⟨F10, ρ9, _, re9.grow g10, (show bnd (xe ρ9) (fun x Q E => out7.length < sizeLine ∧ lcA g1 t1 xe (wipeE ρ4 sl1) (List.drop (j + 1) es) (out7 ++ [x]) Q E) _ (fun _ => False) from q10), fun v H11 F11 d g11 r11 q11 => ?_⟩
              have ga := g810.trans g11
              obtain ⟨s11, t11⟩ := st s7 t7 ga
              have q11 : out7.length < sizeLine ∧ lcA g1 t1 xe (wipeE ρ4 sl1) (es.drop (j + 1)) (out7 ++ [d]) _ (fun _ => False) := q11
              refine ⟨acc7, t11, by rw [ra7.length]; exact q11.1, F11, _, out7 ++ [d], put (g7.trans ga) s11, sm7.trans ga.f, (re7.grow ga).extChg hBD s11 ne4, s11, upd_same, (ra7.mono ga.f).append (.cons r11 .nil), q11.2⟩
        · have e : j = es.length := by omega
          subst e
          rw [List.drop_length] at q7
          exact .inl ⟨k1, F7, acc7, out7, g7, s7, t7, ra7, q7⟩
  · have e : i = ds.length := by omega
    subst e
    rw [List.drop_length] at q2
    have q3 : Q (.lst out, true) := q2
    exact .inl ⟨i1, k _ H2 F2 (.lst out, true) (gr1.trans g2) (Val.own (gr1.h.free hD) fD ⟨acc, hDn, ra⟩) q3⟩
def vLc2 : VR := fun r g e => match e with
  | .ListComp elt [⟨tg, iter, ifs, 0⟩, ⟨tg1, iter1, ifs1, 0⟩] scope _ =>
    match lcOf r g elt tg iter ifs scope with
    | some d => if plainE iter1 = true then match gOf (blkSg g scope) 6 tg, r.i (blkSg g scope) tg1 iter1, gOf (blkSg g scope) 6 tg1, testsOf r (blkSg g scope) ifs1 with
      | some (sl, gg), some c1, some (sl1, g1), some t1 => if ((sl.all fun i => decide (i ∈ (ownOf g scope).map (·.2))) && (sl1.all fun i => decide (i ∈ (ownOf g scope).map (·.2)))) = true then some (cLc2 ((ownOf g scope).map (·.2)) sl1 d.ci gg d.t c1 g1 t1 d.xe) else none
      | _, _, _, _ => none else none
    | none => none
  | _ => none
theorem lcOf_own {r : Rec} {g : Sg} {elt tg iter : Expr} {ifs : List Expr} {scope : Scope} {d : LcD} (h : lcOf r g elt tg iter ifs scope = some d) : d.own = ownOf g scope ∧ (blkSg g scope).st.all (stB (relS scope g.sc) scope) = true ∧ (blkSg g scope).sc.kind = .function := by
  unfold lcOf at h
  split at h
  · rename_i hb
    rw [Bool.and_eq_true, Bool.and_eq_true, Bool.and_eq_true] at hb
    obtain ⟨⟨⟨b1, b2⟩, b3⟩, b4⟩ := hb
    split at h
    · split at h
      · cases h; exact ⟨rfl, b2, of_decide_eq_true b4⟩
      · cases h
    · cases h
  · cases h
theorem vLc2_ok : VrOk vLc2 := by
  intro r R X g E e c ok h
  unfold vLc2 at h
  split at h
  · rename_i elt tg iter ifs tg1 iter1 ifs1 scope pos
    split at h
    · rename_i d hd
      have L := lcOf_ok (E := E) R ok hd
      obtain ⟨eo, b2, b4⟩ := lcOf_own hd
      split at h
      · rename_i hpl
        split at h
        · rename_i sl gg c1 sl1 g1 t1 h0 h1 h2 h3
          split at h
          · rename_i hs
            cases h
            rw [Bool.and_eq_true] at hs
            have bk := blkSg_ok ok b2 b4
            have hsl : ∀ i ∈ sl, i ∈ (ownOf g scope).map (·.2) := fun i hi => of_decide_eq_true (List.all_eq_true.mp hs.1 i hi)
            have hsl1 : ∀ i ∈ sl1, i ∈ (ownOf g scope).map (·.2) := fun i hi => of_decide_eq_true (List.all_eq_true.mp hs.2 i hi)
            have tests : ∀ (s : Shared) (H : Hp) (C : Addr) (cl : List (Str × Addr)) (fp : List Addr), PTs (X.blk s H scope (compEnvC scope cl C X.env) fp) ifs1 (rdT X.K E.no t1) := fun s H C cl fp => by
              unfold testsOf at h3
              split at h3
              · cases h3; exact rts_nil
              · exact pts_one (R.t (bk s H C cl fp) h3)
              · cases h3
            have hok := L.ok
            rw [eo] at hok
            exact (pe_lc2 (vs1 := sl1) ok.calm (by rw [ok.N]; exact ok.nd) L.hi hok hsl1 (fun s H C cl fp => gOf_ok (p := (sl, gg)) (bk s H C cl fp) h0) L.ht (fun s H C cl fp => R.i (bk s H C cl fp) h1) (fun s H C cl fp => gOf_ok (p := (sl1, g1)) (bk s H C cl fp) h2) tests L.he L.hs (fun env x => plain_set hpl x)).imp
              fun σ H Q' h => lc2_imp hsl (gOf_sh (p := (sl, gg)) h0).1 h
          · cases h
        · cases h
      · cases h
    · cases h
  · cases h
end DL
namespace DL
open PySem L2 PySem.Spec PyProof.Rows

/-! ### sorted(a dict whose keys are ints), of any length -/
theorem call_sortedDA {X : Cx} (hcalm : X.calm = true) : CallR X (.builtin "sorted") (fun xs H Q => ∃ (a : Addr) (kvs : List (Key × V)) (ks : List Int), xs = [.ref a] ∧ Rd H a (.dK kvs) ∧ kvs.map (·.1) = ks.map Sum.inl ∧
    ∀ (ys : List Int) (p : Addr), ys.Perm ks → ys.Pairwise (· ≤ ·) → H p = none → Q (.ref p) (upd H p (.lst (ys.map V.int)))) := by
  intro pins s σ H xs us Q I r q
  obtain ⟨a, kvs, ks, ex, hd, hks, q⟩ := q
  subst ex
  obtain ⟨u, eu, rx⟩ := vals1 r
  subst eu
  cases rx
  obtain ⟨z, lo, vs, rel, dd⟩ := dk_rd I.hok hd
  obtain ⟨ep, hat⟩ := dd.dictAt
  have hkeys : vs.map (·.1) = ks.map Sum.inl := rel.keys.symm.trans hks
  have hl : vs.length = ks.length := by
    have e := congrArg List.length hkeys
    rw [List.length_map, List.length_map] at e
    exact e
  have hl2 : kvs.length = ks.length := by
    have e := congrArg List.length hks
    rw [List.length_map, List.length_map] at e
    exact e
  have h16 : vs.length ≤ sizeLine := by rw [hl, ← hl2]; exact z
  refine Calls.call_function_entry PyProof.Rows.kind_sorted PyProof.Rows.plain_sorted PyProof.Rows.entry_sorted (PyProof.Rows.args_sorted1 _) ?_
  unfold Builtin.«sorted»
  refine wpAny_bind (m := checkCount "sorted" 1 1 _) (wpAny_pure ?_)
  refine wpAny_bind (PySem.W.kdu_collect (A := X.A.in1) (PySem.W.kdl_dict (knd := mixKind X.prog X.w) (kvs := vs) (ep := ep) lo) (I.ok.hd hcalm) hat h16 fun h' tk acc hk hacc => ?_)
  have hal : acc.toList.length = ks.length := by rw [Array.length_toList, hacc.1, hl]
  have hS : IntsAre acc.toList ks := ints_each hal fun j v e => by
    obtain ⟨k, x, e1, e2⟩ := hacc.2 j v (by rw [← Array.getElem?_toList]; exact e)
    have e3 : (vs.map (·.1))[j]? = some k := by rw [List.getElem?_map, e1]; rfl
    rw [hkeys, List.getElem?_map] at e3
    cases e4 : ks[j]? with
    | none => rw [e4] at e3; cases e3
    | some y =>
      rw [e4] at e3
      have e5 : Sum.inl y = k := Option.some.inj e3
      subst e5
      rcases keyIs_shape (show keyIs (Sum.inl y) v = true from e2) with ⟨i, t, ek, ev⟩ | ⟨z, t, ek, ev⟩
      · cases ek
        exact ⟨y, t, rfl, ev⟩
      · cases ek
  have I1 : Inv X pins σ H { s with heap := h', toks := tk } := I.kept hk
  have hzL : acc.toList.length ≤ sizeLine := by rw [hal, ← hl]; exact h16
  refine wpAny_bind (wpAny_newList ?_ hzL)
  have hoL : (h'.push (seqObj "list" acc.toList.toArray 0)).get? h'.objs.size = some (seqObj "list" acc.toList.toArray 0) := Heap.get?_push_size _ rfl
  show wpAny _ _ _ _ _ { s with heap := h'.push (seqObj "list" acc.toList.toArray 0), toks := tk }
  refine wpAny_bind (wpAny_holding (wpAny_call_entry PyProof.Rows.slot_list_sort ⟨_, hoL, rfl⟩ PyProof.Rows.entry_list_sort
    (SrtO.list_sort_ord (s := { s with heap := h'.push (seqObj "list" acc.toList.toArray 0), toks := tk }) SrtO.swo_int hoL hzL (fun h2 => SrtO.ints_sortable hS h2) fun out g1 g2 => ⟨_, rfl, ?_⟩) (PyProof.Rows.args_list_sort _)))
  obtain ⟨k1, k2, k3⟩ := SrtO.ints_out hS g1 g2
  obtain ⟨e', he'⟩ := PyProof.Rows.sortedHeap_at (vs := acc.toList) (out := out.toArray) hoL
  have hlen : ((out.map SrtO.iv).map V.int).length ≤ sizeLine := by
    rw [List.length_map, k2.length_eq, ← hl]
    exact h16
  refine wpAny_pure ⟨_, rfl, .ref h'.objs.size, upd H h'.objs.size (.lst ((out.map SrtO.iv).map V.int)), I1.laid (t' := tk) (fun b u e => ?_) (Nat.le_refl _)
    (show ObjOk X.prog X.w _ _ _ (.lst ((out.map SrtO.iv).map V.int)) from ⟨hlen, out, e', vals_of_ints k1, he'⟩), rfl, q _ _ k2 k3 (I1.hok.fresh (Nat.le_refl _))⟩
  have hb : b < h'.objs.size := Heap.lt_size e
  rw [PyProof.Rows.sortedHeap_old (Nat.ne_of_lt hb) (by rw [size_push']; exact Nat.lt_succ_of_lt hb)]
  exact Heap.get?_push_of_some _ e
def keysI : List (D × D) → Option (List Int)
  | [] => some []
  | (.int i, _) :: r => (keysI r).map (i :: ·)
  | _ => none
theorem keysI_is {K : PySem.W.Frag} {H : Hp} : ∀ {kvs : List (D × D)} {ks : List (Key × V)} {ns : List Int}, RepK K H ks kvs → keysI kvs = some ns → ks.map (·.1) = ns.map Sum.inl
  | [], _, _, .nil, e => by simp only [keysI, Option.some.injEq] at e; subst e; rfl
  | p :: kvs, ks, ns, r, e => by
    cases r with
    | @cons k v d ks kvs r t =>
      cases k with
      | inl i =>
        have e : (keysI kvs).map (i :: ·) = some _ := e
        cases q : keysI kvs with
        | none => rw [q] at e; cases e
        | some ns => rw [q] at e; cases e; rw [List.map_cons, List.map_cons, keysI_is t q]
      | inr z => exact absurd (show (none : Option (List Int)) = some _ from e) (by simp)
def sortedM2 : List D → M (D × Bool)
  | [.lst ds] => fun Q _ => match intsD ds with | some ns => Q (.lst ((srtI ns).map D.int), true) | none => False
  | [.dct kvs] => fun Q _ => match keysI kvs with | some ns => Q (.lst ((srtI ns).map D.int), true) | none => False
  | _ => fail
theorem b_sorted2 {X : Cx} (hc : X.calm = true) : CallR X (.builtin "sorted") (rcM X.K sortedM2) := by
  intro pins s σ H xs us Q I r h
  obtain ⟨F, ds, Q2, E, sm, b, h, k⟩ := h
  unfold sortedM2 at h
  split at h
  · obtain ⟨v, rfl, b1⟩ := b.one
    obtain ⟨a, vs, rfl, ha, ra⟩ := b1.lst sm
    split at h
    · rename_i ns e
      cases ra.ints e
      refine cr_sortedI pins s σ H _ us Q I r ⟨_, ns, rfl, SqL.of ha, fun ns' p pm so hp => ?_⟩
      have e2 : ns' = srtI ns := sorted_one (pm.trans (srtI_perm ns).symm) so (srtI_sorted ns)
      rw [e2]
      exact new_own sm (repL_ints _) h k p hp
    · exact h.elim
  · rename_i kvs
    obtain ⟨v, rfl, b1⟩ := b.one
    split at h
    · rename_i ns e
      have fin : ∃ a ks, v = V.ref a ∧ H a = some (.dK ks) ∧ RepK X.K F ks kvs := by
        rcases b1 with b | ⟨p, rfl, ks, h, r⟩
        · cases b with
          | dct h r => exact ⟨_, _, rfl, sm _ _ h, r⟩
        · exact ⟨p, ks, rfl, h, r⟩
      obtain ⟨a, ks, rfl, ha, ra⟩ := fin
      refine call_sortedDA hc pins s σ H _ us Q I r ⟨a, ks, ns, rfl, .inl ha, keysI_is ra e, fun ns' p pm so hp => ?_⟩
      have e2 : ns' = srtI ns := sorted_one (pm.trans (srtI_perm ns).symm) so (srtI_sorted ns)
      rw [e2]
      exact new_own sm (repL_ints _) h k p hp
    · exact h.elim
  · exact h.elim

/-! ### the rules in use -/
def rules : Rules where
  v := [vName, vConst, vBin, vBool, vCmp, vRev, vSeq, vIsi, vLRg, vBest, vSrtSet, vCall, vLc, vLc2]
  i := [iRange, iEnum, iZip, iPlain]
  s := [sRetOwn, sExpr, sName, sPair, sTup, sTup2, sSub, sFlow]
theorem rules_ok : RulesOk rules where
  v := fun f hf => by
    simp only [rules, List.mem_cons, List.not_mem_nil, or_false] at hf
    rcases hf with rfl | rfl | rfl | rfl | rfl | rfl | rfl | rfl | rfl | rfl | rfl | rfl | rfl | rfl
    · exact vName_ok
    · exact vConst_ok
    · exact vBin_ok
    · exact vBool_ok
    · exact vCmp_ok
    · exact vRev_ok
    · exact vSeq_ok
    · exact vIsi_ok
    · exact vLRg_ok
    · exact vBest_ok
    · exact vSrtSet_ok
    · exact vCall_ok
    · exact vLc_ok
    · exact vLc2_ok
  i := fun f hf => by
    simp only [rules, List.mem_cons, List.not_mem_nil, or_false] at hf
    rcases hf with rfl | rfl | rfl | rfl
    · exact iRange_ok
    · exact iEnum_ok
    · exact iZip_ok
    · exact iPlain_ok
  s := fun f hf => by
    simp only [rules, List.mem_cons, List.not_mem_nil, or_false] at hf
    rcases hf with rfl | rfl | rfl | rfl | rfl | rfl | rfl | rfl
    · exact sRetOwn_ok
    · exact sExpr_ok
    · exact sName_ok
    · exact sPair_ok
    · exact sTup_ok
    · exact sTup2_ok
    · exact sSub_ok
    · exact sFlow_ok
end DL
namespace DL
open PySem L2 PySem.Spec PyProof.Rows

/-! ### dict displays -/
def kvD : List (D × D) → Option (List (Key × D))
  | [] => some []
  | (k, v) :: r => match keyD k, kvD r with
    | some y, some l => some ((y, v) :: l)
    | _, _ => none
def prM : List (CB × CB) → Env → M (List (D × D))
  | [], _ => ret []
  | (a, b) :: r, ρ => bnd (a ρ) fun x => bnd (b ρ) fun y => bnd (prM r ρ) fun l => ret ((x, y) :: l)
def cDct (ps : List (CB × CB)) : CV := fun ρ => bnd (prM ps ρ) fun l Q _ => match kvD l with
  | some kvs => Q (.dct (unK (mergeG [] kvs)), true)
  | none => False
inductive RepVV (K : PySem.W.Frag) (F : Hp) : List (V × V) → List (D × D) → Prop
  | nil : RepVV K F [] []
  | cons {x y : V} {d e : D} {ps : List (V × V)} {l : List (D × D)} : Rep K F x d → Rep K F y e → RepVV K F ps l → RepVV K F ((x, y) :: ps) ((d, e) :: l)
theorem RepVV.kvs {K : PySem.W.Frag} {F : Hp} : ∀ {l : List (D × D)} {ps : List (V × V)} {kvs : List (Key × D)}, RepVV K F ps l → kvD l = some kvs → ∃ ks : List (Key × V), ps = ks.map (fun kv => (kV kv.1, kv.2)) ∧ RepP K F ks kvs ∧ ks.length = l.length
  | [], _, _, .nil, e => by simp only [kvD, Option.some.injEq] at e; subst e; exact ⟨[], rfl, .nil, rfl⟩
  | (d, v) :: l, _, _, .cons r1 r2 t, e => by
    simp only [kvD] at e
    split at e
    · rename_i y m e1 e2
      cases e
      obtain ⟨ks, rfl, h, hl⟩ := RepVV.kvs t e2
      have := key_is r1 e1
      subst this
      exact ⟨(y, _) :: ks, rfl, .cons r2 h, by rw [List.length_cons, List.length_cons, hl]⟩
    · cases e
theorem pairs_imp {K : PySem.W.Frag} {E : EX} {σ : L2.St} {ρ : Env} : ∀ (ps : List (CB × CB)) {F H : Hp} {Q : List (D × D) → Prop} {R : List (V × V) → Hp → Prop}, REnv K E.B E.F0 F H σ ρ → prM ps ρ Q (E.at ρ) →
    (∀ vs H' F' l, Grow F H F' H' → RepVV K F' vs l → l.length = ps.length → Q l → R vs H') → tPairs (ps.map fun p => (rdF K E p.1, rdF K E p.2)) σ H R
  | [], F, H, Q, R, re, h, k => k [] H F [] re.gr .nil rfl h
  | (a, b) :: ps, F, H, Q, R, re, h, k => by
    refine ⟨F, ρ, _, re, h, fun x H1 F1 d g1 r1 h1 => ⟨F1, ρ, _, re.grow g1, h1, fun y H2 F2 e g2 r2 h2 => ?_⟩⟩
    refine pairs_imp ps ((re.grow g1).grow g2) h2 fun vs H3 F3 l g3 r3 hl q => ?_
    exact k _ H3 F3 _ ((g1.trans g2).trans g3) (.cons (r1.mono (g2.trans g3).f) (r2.mono g3.f) r3) (by rw [List.length_cons, List.length_cons, hl]) q
theorem unK_rep {K : PySem.W.Frag} {F : Hp} {ks : List (Key × V)} {kvs : List (Key × D)} (h : RepP K F ks kvs) : RepK K F (mergeK [] ks) (unK (mergeG [] kvs)) := (h.merge .nil).rep
theorem re_dct0 {X : Cx} {E : EX} {pos : Pos} : PE X (.Dict [] [] pos) (rdV X.K E (cDct [])) := pe_dnewK.imp fun σ H Q' ⟨F, ρ, Q, re, h, k⟩ p hp =>
  k (.ref p) _ F (.dct [], true) (Grow.own re.fh hp _) (Val.own (d := .dct []) hp (re.fh.free hp) ⟨[], upd_same, .nil⟩) h
theorem re_dct {X : Cx} {E : EX} {pos : Pos} {keys : List (Option Expr)} {values : List Expr} {ps : List (CB × CB)} (h : PPs X pos keys values (ps.map fun p => (rdF X.K E p.1, rdF X.K E p.2))) (hall : keys.all (·.isSome) = true) (hl : keys.length = values.length)
    (h0 : keys ≠ []) (h15 : keys.length ≤ 15) (hps : ps.length ≤ 15) : PE X (.Dict keys values pos) (rdV X.K E (cDct ps)) :=
  (pe_disp h hall hl h0 h15).imp fun σ H Q' ⟨F, ρ, Q, re, h, k⟩ p hp => by
    have ga := Grow.own re.fh hp (.dK [])
    refine pairs_imp ps (re.grow ga) h fun vs H2 F2 l g2 r2 hlen q => ?_
    have hp2 := g2.h _ _ upd_same
    have hF2 : F2 p = none := by
      cases z : F2 p with
      | none => rfl
      | some u =>
        rcases g2.nw p u z with w | w
        · rw [re.fh.free hp] at w; cases w
        · rw [upd_same] at w; cases w
    have q : (match kvD l with | some kvs => Q (.dct (unK (mergeG [] kvs)), true) | none => False) := q
    split at q
    · rename_i kvs e
      obtain ⟨ks, rfl, rp, hk⟩ := r2.kvs e
      refine ⟨hp2, ks, rfl, by rw [hk, hlen]; exact hps, ?_⟩
      have gg := ga.trans g2
      refine k (.ref p) _ F2 _ ⟨fun b u z => ?_, gg.f, fun b u z => ?_, gg.nw⟩ (Val.own (d := .dct (unK (mergeG [] kvs))) hp hF2 ⟨_, upd_same, unK_rep rp⟩) q
      · rw [upd_ne (ne_of_none z hp)]; exact gg.h b u z
      · rw [upd_ne (ne_of_none z hF2)]; exact gg.fh b u z
    · exact q.elim
def psOf (r : Rec) (g : Sg) : List (Option Expr) → List Expr → Option (List (CB × CB))
  | [], [] => some []
  | some k :: ks, v :: vs => match fOf r g k, fOf r g v, psOf r g ks vs with
    | some a, some b, some l => some ((a, b) :: l)
    | _, _, _ => none
  | _, _ => none
theorem psOf_ok {r : Rec} (R : RecOk r) {X : Cx} {g : Sg} {E : EX} {pos : Pos} (ok : SgOk X g E) : ∀ {keys : List (Option Expr)} {values : List Expr} {ps : List (CB × CB)}, psOf r g keys values = some ps →
    PPs X pos keys values (ps.map fun p => (rdF X.K E p.1, rdF X.K E p.2)) ∧ keys.all (·.isSome) = true ∧ keys.length = values.length ∧ ps.length = keys.length
  | [], [], _, h => by simp only [psOf, Option.some.injEq] at h; subst h; exact ⟨pps_nil, rfl, rfl, rfl⟩
  | some k :: ks, v :: vs, _, h => by
    simp only [psOf] at h
    split at h
    · rename_i a b l h1 h2 h3
      cases h
      obtain ⟨q1, q2, q3, q4⟩ := psOf_ok (E := E) (pos := pos) R ok h3
      exact ⟨pps_cons (fOf_ok R ok h1) (fOf_ok R ok h2) q1, by rw [List.all_cons, q2]; rfl, by rw [List.length_cons, List.length_cons, q3], by rw [List.length_cons, List.length_cons, q4]⟩
    · cases h
  | [], _ :: _, _, h => by simp [psOf] at h
  | none :: _, _, _, h => by simp [psOf] at h
  | some _ :: _, [], _, h => by simp [psOf] at h
def vDct : VR := fun r g e => match e with
  | .Dict keys values _ => if keys.length ≤ 15 then (psOf r g keys values).map cDct else none
  | _ => none
theorem vDct_ok : VrOk vDct := by
  intro r R X g E e c ok h
  unfold vDct at h
  split at h
  · rename_i keys values pos
    split at h
    · rename_i h15
      obtain ⟨ps, h1, rfl⟩ := map_some h
      obtain ⟨q1, q2, q3, q4⟩ := psOf_ok (E := E) (pos := pos) R ok h1
      cases keys with
      | nil =>
        cases values with
        | nil => simp only [psOf, Option.some.injEq] at h1; subst h1; exact re_dct0
        | cons _ _ => cases q3
      | cons k ks => exact re_dct q1 q2 q3 (by simp) h15 (by rw [q4]; exact h15)
    · cases h
  · cases h

/-! ### sep.join(list of texts) -/
def joinM : D → D → M (D × Bool)
  | .str a, .lst ds => fun Q _ => match strsD ds with
    | some ys => (ys.map (·.length)).sum + ys.length * a.length ≤ 16777216 ∧ Q (.str (Txt.join a ys), false)
    | none => False
  | _, _ => fail
def cJoin (s : Str) (b : CB) : CV := fun ρ => bnd (b ρ) fun y => joinM (.str s) y
theorem re_join {X : Cx} {E : EX} {s : Str} {kk : Nat} {e : Expr} {xb : CB} {apos pos p0 : Pos} (hb : PE X e (rdB X.K E xb)) (hs : starEach [e] X.env = [(false, eval e X.env)])
    (hbase : attributeBase (.Constant (.str s) kk p0) "join" X.env (eval (.Constant (.str s) kk p0) X.env) = eval (.Constant (.str s) kk p0) X.env)
    (hline : (apos.endLine == pos.line) = true) : PE X (.Call (.Attribute (.Constant (.str s) kk p0) "join" apos) [e] [] pos) (rdV X.K E (cJoin s xb)) :=
  (pe_join pe_str hb hs hbase hline).imp fun σ H Q' ⟨F, ρ, Q, re, h, k⟩ => by
    refine ⟨⟨s, rfl⟩, F, ρ, _, re, h, fun u H2 F2 d2 g2 b2 h2 => ?_⟩
    cases d2 with
    | lst ds =>
      have h2 : (match strsD ds with | some ys => (ys.map (·.length)).sum + ys.length * s.length ≤ 16777216 ∧ Q (.str (Txt.join s ys), false) | none => False) := h2
      split at h2
      · rename_i ys e2
        obtain ⟨p, vs, rfl, hp, rp⟩ := b2.lst g2.fh
        cases rp.strs e2
        exact ⟨s, p, ys, rfl, rfl, .inl (SqL.of hp), h2.1, k _ H2 F2 (.str (Txt.join s ys), false) g2 (Val.of (.str _)) h2.2⟩
      · exact h2.elim
    | _ => exact (show False from h2).elim
def vJoin : VR := fun r g e => match e with
  | .Call (.Attribute (.Constant (.str s) _ _) m ap) [a] [] cp => if m = ("join" : Str) ∧ (ap.endLine == cp.line) = true ∧ plainE a = true then (bOf r g a).map (cJoin s) else none
  | _ => none
theorem vJoin_ok : VrOk vJoin := by
  intro r R X g E e c ok h
  unfold vJoin at h
  split at h
  · split at h
    · rename_i hm
      obtain ⟨rfl, hl, hp⟩ := hm
      obtain ⟨x, h1, rfl⟩ := map_some h
      exact re_join (bOf_ok R ok h1) (plain_star hp) rfl hl
    · cases h
  · cases h

/-! ### tuples of texts among the module's constants -/
theorem GvB.strs {P : Program} {w : World} {K : PySem.W.Frag} {mg : Str → Option Value} {base : Heap} {k : Nat} {x : Str} {a : Addr} {od : Option Addr} {sl : Array (Option Value)} {n : Nat} {zs : List Str} {its : Array Value} (hm : mg x = some (.ref a))
    (hk : K.lookup a = some ⟨.type "tuple", od, .seq its n, sl⟩) (hz : its.size ≤ sizeLine) (hv : Vals (zs.map V.str) its.toList) : GvB P w K mg base k x (.cv (.tup (zs.map .str))) :=
  ⟨.ref a, .ref a, hm, rfl, fun F => .tup (.inr ⟨_, _, _, hk, rfl, rfl, hz, hv⟩) (repL_strs zs)⟩

def rules2 : Rules where
  v := [vName, vConst, vBin, vBool, vCmp, vRev, vSeq, vIsi, vLRg, vBest, vSrtSet, vCall, vLc, vLc2, vDct, vJoin]
  i := rules.i
  s := rules.s
theorem rules2_ok : RulesOk rules2 where
  v := fun f hf => by
    simp only [rules2, List.mem_cons, List.not_mem_nil, or_false] at hf
    rcases hf with rfl | rfl | rfl | rfl | rfl | rfl | rfl | rfl | rfl | rfl | rfl | rfl | rfl | rfl | rfl | rfl
    · exact vName_ok
    · exact vConst_ok
    · exact vBin_ok
    · exact vBool_ok
    · exact vCmp_ok
    · exact vRev_ok
    · exact vSeq_ok
    · exact vIsi_ok
    · exact vLRg_ok
    · exact vBest_ok
    · exact vSrtSet_ok
    · exact vCall_ok
    · exact vLc_ok
    · exact vLc2_ok
    · exact vDct_ok
    · exact vJoin_ok
  i := rules_ok.i
  s := rules_ok.s
end DL
namespace DL
open PySem L2 PySem.Spec PyProof.Rows

/-! ### a list of lists that both change: what stands below is kept in slots under names that the text does not know -/
def ghN (i : Nat) : Str := ⟨#[63, i]⟩
def isGh (x : Str) : Bool := match x.cps.toList with | [63, _] => true | _ => false
/-- where the unknown names begin -/
def gh0 (N : List Str) : Nat := N.findIdx isGh
def ghB (g : Sg) : Bool := decide (gh0 g.N < g.N.length) && (g.N.drop (gh0 g.N)).all fun x => !visB g.sc x
theorem vis_B {sc : Scope} {x : Str} (h : Vis sc x) : visB sc x = true := by
  unfold Vis at h
  unfold visB
  rcases h with h | h | h <;> rw [h]
theorem ghB_is {X : Cx} {g : Sg} {E : EX} (ok : SgOk X g E) (h : ghB g = true) {j : Nat} (hj : gh0 g.N ≤ j) : ∀ x, X.N[j]? = some x → ¬ Vis X.env.scope x := by
  intro x hx hv
  unfold ghB at h
  rw [Bool.and_eq_true] at h
  rw [ok.N] at hx
  have : x ∈ g.N.drop (gh0 g.N) := by
    have e : (g.N.drop (gh0 g.N))[j - gh0 g.N]? = some x := by
      rw [List.getElem?_drop]
      have : gh0 g.N + (j - gh0 g.N) = j := by omega
      rw [this]; exact hx
    exact List.mem_of_getElem? e
  have h2 := List.all_eq_true.mp h.2 x this
  rw [ok.sc] at hv
  rw [vis_B hv] at h2
  cases h2
def findG (n0 : Nat) (ρ : Env) (p : Addr) : Option (Nat × D) := match (ρ.drop n0).findIdx? (fun c => match c with | .ow _ (some q) => decide (q = p) | _ => false) with
  | some j => match ρ[n0 + j]? with
    | some (.ow d (some q)) => if q = p then some (n0 + j, d) else none
    | _ => none
  | none => none
theorem findG_is {n0 : Nat} {ρ : Env} {p : Addr} {j : Nat} {d : D} (h : findG n0 ρ p = some (j, d)) : n0 ≤ j ∧ ρ[j]? = some (.ow d (some p)) := by
  unfold findG at h
  split at h
  · split at h
    · rename_i k _ d' q e
      split at h
      · rename_i hq
        cases h
        subst hq
        exact ⟨Nat.le_add_right _ _, e⟩
      · cases h
    · cases h
  · cases h
def deref (n0 : Nat) (ρ : Env) : D → D
  | .raw (.ref p) => match findG n0 ρ p with
    | some (_, d) => d
    | none => .raw (.ref p)
  | d => d
theorem deref_bor {K : PySem.W.Frag} {B F0 F H F' H' : Hp} {σ : L2.St} {ρ : Env} {n0 : Nat} (re : REnv K B F0 F H σ ρ) (g : Grow F H F' H') {v : V} {d : D} (b : Bor K F' H' v d) : Bor K F' H' v (deref n0 ρ d) := by
  unfold deref
  split
  · rename_i p
    split
    · rename_i j d' e
      obtain ⟨_, e⟩ := findG_is e
      obtain ⟨_, _, p', rfl, _, _, o, z⟩ := re.cell _ _ e
      have := z p rfl
      subst this
      rcases b with b | ⟨q, rfl, o2⟩
      · cases b
        exact .inr ⟨_, rfl, o.grow g⟩
      · exact o2.elim
    · exact b
  · exact b
def cIxG (n0 : Nat) (a b : CB) : CV := fun ρ => bnd (a ρ) fun x => bnd (b ρ) fun y => bnd (ixM (deref n0 ρ x) y) fun d => ret (d, false)
theorem re_ixG {X : Cx} {E : EX} {a b : Expr} {xa xb : CB} {pos : Pos} (n0 : Nat) (ha : PE X a (rdB X.K E xa)) (hb : PE X b (rdB X.K E xb)) (hs : PlainIx b) : PE X (.Subscript a b pos) (rdV X.K E (cIxG n0 xa xb)) :=
  (pe_ix ix_ok ha hb hs).imp fun σ H Q' ⟨F, ρ, Q, re, h, k⟩ =>
    ⟨F, ρ, _, re, h, fun v H1 F1 d g1 b1 h1 => ⟨F1, ρ, _, re.grow g1, h1, fun u H2 F2 d2 g2 b2 h2 =>
      ⟨F2, deref n0 ρ d, d2, _, _, g2.fh, deref_bor re (g1.trans g2) (b1.grow g2), b2, h2, fun w d3 r3 q => k w H2 F2 (d3, false) (g1.trans g2) (Val.of r3) q⟩⟩⟩
def vIxG : VR := fun r g e => match e with
  | .Subscript _ (.Slice ..) _ => none
  | .Subscript a b _ => if (ghB g && plainE b) = true then match bOf r g a, bOf r g b with
    | some x, some y => some (cIxG (gh0 g.N) x y)
    | _, _ => none else none
  | _ => none
theorem vIxG_ok : VrOk vIxG := by
  intro r R X g E e c ok h
  unfold vIxG at h
  split at h
  · cases h
  · split at h
    · rename_i hp
      rw [Bool.and_eq_true] at hp
      split at h
      · cases h; exact re_ixG _ (bOf_ok R ok ‹_›) (bOf_ok R ok ‹_›) (plain_ix hp.2)
      · cases h
    · cases h
  · cases h

/-! ### xs.append(a new list), the new list kept below -/
def sPark (n0 i : Nat) (c : CV) : CS := fun ρ W E => isOwL ρ i ∧ i < n0 ∧ c ρ (fun r => r.2 = true ∧ ∃ j, n0 ≤ j ∧ ρ[j]? = some .no ∧ ∀ p : Addr, (∀ (k : Nat) (d : D) (q : Addr), ρ[k]? = some (.ow d (some q)) → q ≠ p) →
  match ρ[i]? with
  | some (.ow (.lst xs) z) => xs.length < sizeLine ∧ W.nx ((ρ.set i (.ow (.lst (xs ++ [.raw (.ref p)])) z)).set j (.ow r.1 (some p)))
  | _ => False) (fun x => E x ρ)
theorem ps_ghost {X : Cx} {st : Stmt} {t : TS} {n0 : Nat} (gh : ∀ j, n0 ≤ j → ∀ x, X.N[j]? = some x → ¬ Vis X.env.scope x) (h : PS X st t) : PS X st (fun Dn σ H => t { Dn with nx := fun σ' H' => ∃ j o, n0 ≤ j ∧ Dn.nx (σ'.set j o) H' } σ H) :=
  ⟨fun pins s σ H Dn I hw => thn (h.run pins s σ H _ I hw) fun fl s' q => by
    cases fl with
    | next => obtain ⟨σ', H', I', j, o, hj, q⟩ := q; exact ⟨_, H', Inv.ghost I' (gh j hj), q⟩
    | brk => exact q
    | cont => exact q
    | ret u => exact q⟩
section
variable {X : Cx} {E : EX} {pos pos' : Pos} {e : Expr} {c : CV} {xe : CB}
theorem rs_park {n0 i : Nat} {x : Str} {apos cpos : Pos} (gh : ∀ j, n0 ≤ j → ∀ x, X.N[j]? = some x → ¬ Vis X.env.scope x) (hN : X.N[i]? = some x) (hv : Vis X.env.scope x) (hd : (x == ("__debug__" : Str)) = false) (hcd : (x == ("__classdict__" : Str)) = false) (he : PE X e (rdV X.K E c))
    (hbase : attributeBase (.Name x pos) "append" X.env (eval (.Name x pos) X.env) = eval (.Name x pos) X.env)
    (hfew : ((backTo cpos (starEach [e] X.env)).all (fun x => !x.1) && (backToKw cpos (keywordEach [] X.env)).all (fun x => x.1.isSome) && decide ([e].length + ([] : List Keyword).length + (if ([] : List Keyword).isEmpty then 0 else 1) < 30)) = true)
    (hline : (apos.endLine == cpos.line) = true) (hs : starEach [e] X.env = (false, eval e X.env) :: starEach [] X.env) (hpl : (backTo cpos (starEach [] X.env)).any (·.1) = false)
    (hsw : swapsWith (.Call (.Attribute (.Name x pos) "append" apos) [e] [] cpos) none pos'.line X.env = pure false) :
    PS X (.Expr (.Call (.Attribute (.Name x pos) "append" apos) [e] [] cpos) pos') (rdS X.K E (sPark n0 i c)) :=
  PS.imp (ps_ghost gh (ps_expr (pe_bm F.plainAttrs_list F.slot_list_append rfl mt_append (pe_var hN hv hd hcd) (pa_cons he pa_nil hs) hbase hfew hline hs hpl) hsw)) fun Dn σ H ⟨F, ρ, W, re, h, l⟩ => by
    obtain ⟨h0, hi, h⟩ := h
    obtain ⟨xs, z0, ex⟩ := isOwL_iff h0
    obtain ⟨p, vs, es, hp, r⟩ := re.owL ex
    refine ⟨_, es, .inl ⟨rfl, _, SqL.of hp⟩, F, ρ, _, re, h, fun w H' F' rr gr rd q => ?_⟩
    obtain ⟨hr, j, hj, ej, q⟩ := q
    unfold Val at rd
    rw [if_pos hr] at rd
    obtain ⟨p2, rfl, h20, hf2, o2⟩ := rd
    have thr : ∀ (k : Nat) (d : D) (z : Option Addr), ρ[k]? = some (Cell.ow d z) → σ[k]? ≠ some (some (V.ref p2)) := fun k d z hk hs => by
      obtain ⟨_, h1, p', rfl, _, _, o', _⟩ := re.cell k _ hk
      rw [hs] at h1
      cases h1
      obtain ⟨u, hu⟩ := o'.there
      rw [h20] at hu; cases hu
    have q := q p2 fun k d q' hk e => by
      subst e
      obtain ⟨_, h1, p', rfl, _, _, o', z'⟩ := re.cell k _ hk
      have := z' q' rfl
      subst this
      exact thr k d _ hk h1
    rw [ex] at q
    have re' := re.grow gr
    obtain ⟨hsz, q⟩ := q
    have r2 := r.mono gr.f
    refine ⟨p, vs, .ref p2, rfl, rfl, gr.h _ _ hp, by rw [r2.length]; exact hsz, ?_⟩
    have re2 := re'.chg (d := .lst (xs ++ [.raw (.ref p2)])) (o := .lst (vs ++ [.ref p2])) ex es fun H2 h2 => Own.mkL h2 (r2.append (.cons (.raw _) .nil))
    have hne : p2 ≠ p := fun e => by subst e; exact thr i _ _ ex es
    refine ⟨j, some (.ref p2), hj, l.nx _ _ F' _ (re2.put j (c := .ow rr.1 (some p2)) ⟨p2, rfl, re.bh.free h20, hf2, o2.upd_ne hne, fun q z => by cases z; rfl⟩ fun d z p' e1 e2 k e y hk ek es' => ?_) q⟩
    cases e1
    cases e2
    rcases set_at ek with ⟨rfl, _, _⟩ | ⟨_, ek2⟩
    · rw [es] at es'; cases es'; exact hne rfl
    · exact thr k _ _ ek2 es'
/-- x.append(e), x another name for a list kept below -/
def sAppG (n0 i : Nat) (c : CB) : CS := fun ρ W E => ∃ (p : Addr) (j : Nat) (xs : List D), ρ[i]? = some (.sh (.raw (.ref p))) ∧ findG n0 ρ p = some (j, .lst xs) ∧
  c ρ (fun d => xs.length < sizeLine ∧ W.nx (ρ.set j (.ow (.lst (xs ++ [d])) (some p)))) (fun x => E x ρ)
theorem rs_appG {n0 i : Nat} {x : Str} {apos cpos : Pos} (hN : X.N[i]? = some x) (hv : Vis X.env.scope x) (hd : (x == ("__debug__" : Str)) = false) (hcd : (x == ("__classdict__" : Str)) = false) (he : PE X e (rdF X.K E xe))
    (hbase : attributeBase (.Name x pos) "append" X.env (eval (.Name x pos) X.env) = eval (.Name x pos) X.env)
    (hfew : ((backTo cpos (starEach [e] X.env)).all (fun x => !x.1) && (backToKw cpos (keywordEach [] X.env)).all (fun x => x.1.isSome) && decide ([e].length + ([] : List Keyword).length + (if ([] : List Keyword).isEmpty then 0 else 1) < 30)) = true)
    (hline : (apos.endLine == cpos.line) = true) (hs : starEach [e] X.env = (false, eval e X.env) :: starEach [] X.env) (hpl : (backTo cpos (starEach [] X.env)).any (·.1) = false)
    (hsw : swapsWith (.Call (.Attribute (.Name x pos) "append" apos) [e] [] cpos) none pos'.line X.env = pure false) :
    PS X (.Expr (.Call (.Attribute (.Name x pos) "append" apos) [e] [] cpos) pos') (rdS X.K E (sAppG n0 i xe)) :=
  PS.imp (ps_expr (pe_bm F.plainAttrs_list F.slot_list_append rfl mt_append (pe_var hN hv hd hcd) (pa_cons he pa_nil hs) hbase hfew hline hs hpl) hsw) fun Dn σ H ⟨F, ρ, W, re, h, l⟩ => by
    obtain ⟨p, j, xs, ei, ej, h⟩ := h
    obtain ⟨_, ej⟩ := findG_is ej
    obtain ⟨_, h1, y, rfl, ry⟩ := re.cell i _ ei
    cases ry
    obtain ⟨_, h2, p', rfl, hB, hF, ⟨vs, hp, r⟩, z⟩ := re.cell j _ ej
    have := z p rfl
    subst this
    refine ⟨_, h1, .inl ⟨rfl, _, SqL.of hp⟩, F, ρ, _, re, h, fun w H' F' d gr rd q => ?_⟩
    have r2 := r.mono gr.f
    refine ⟨p', vs, w, rfl, rfl, gr.h _ _ hp, by rw [r2.length]; exact q.1, ?_⟩
    exact l.nx _ _ F' _ ((re.grow gr).chg (d := .lst (xs ++ [d])) ej h2 fun H2 h2 => Own.mkL h2 (r2.append (.cons rd .nil))) q.2

/-! ### all of it given away -/
def ghL (n0 : Nat) (ρ : Env) : List Nat := (List.range (ρ.length - n0)).map fun k => n0 + k
def sDeep (n0 i : Nat) (c : CS) : CS := fun ρ W E => ∃ ds z, i < n0 ∧ ρ[i]? = some (.ow (.lst ds) z) ∧ c ((wipeE ρ (ghL n0 ρ)).set i (.sh (.lst (ds.map (deref n0 ρ))))) W E
theorem Grow.frz1 {F H : Hp} (s : Same F H) {p : Addr} {o : HO} (hF : F p = none) (hp : H p = some o) : Same F (upd F p o) ∧ Same (upd F p o) H := by
  refine ⟨fun b w z => by rw [upd_ne (ne_of_none z hF)]; exact z, fun b w z => ?_⟩
  by_cases hb : b = p
  · subst hb; rw [upd_same] at z; rw [← z]; exact hp
  · rw [upd_ne hb] at z; exact s b w z
/-- everything that is one's own under slots js is frozen -/
theorem REnv.frzs {K : PySem.W.Frag} {B F0 F H : Hp} {σ : L2.St} {ρ : Env} (re : REnv K B F0 F H σ ρ) : ∀ js : List Nat, (∀ j ∈ js, ∀ d z, ρ[j]? = some (Cell.ow d z) → True) → ∃ F2, Same F F2 ∧ REnv K B F0 F2 H σ (wipeE ρ js) ∧
    ∀ j ∈ js, ∀ d p, ρ[j]? = some (Cell.ow d (some p)) → Rep K F2 (.ref p) d
  | [], _ => ⟨F, Same.refl F, re, fun j hj => by cases hj⟩
  | j :: js, _ => by
    obtain ⟨F2, sm, re2, rp⟩ := REnv.frzs re js fun _ _ _ _ _ => trivial
    by_cases hc : ∃ d z, (wipeE ρ js)[j]? = some (Cell.ow d z)
    · obtain ⟨d, z, e⟩ := hc
      obtain ⟨v, h1, p, rfl, hB, hF, hO, hz⟩ := re2.cell j _ e
      obtain ⟨u, hu, rpp⟩ := hO.frz hF
      obtain ⟨s1, s2⟩ := Grow.frz1 re2.fh hF hu
      have re3 : REnv K B F0 (upd F2 p u) H σ ((wipeE ρ js).set j .no) := by
        refine ⟨re2.bh, re2.f0.trans s1, s2, fun b w z => ?_, by rw [List.length_set]; exact re2.len, fun k c ek => ?_, fun k m d1 d2 z1 z2 q hkm ek em ejs => ?_⟩
        · by_cases hb : b = p
          · subst hb; exact .inr hB
          · rw [upd_ne hb] at z; exact re2.fr b w z
        · rcases set_at ek with ⟨rfl, hi, rfl⟩ | ⟨hk, ek2⟩
          · exact ⟨_, h1, trivial⟩
          · obtain ⟨w, w1, w2⟩ := re2.cell k c ek2
            refine ⟨w, w1, ?_⟩
            cases c with
            | no => trivial
            | sh d => obtain ⟨x, rfl, r⟩ := w2; exact ⟨x, rfl, r.mono s1⟩
            | ow d' z' =>
              obtain ⟨q, rfl, q1, q2, q3, q4⟩ := w2
              have hq : q ≠ p := fun z => by
                subst z
                exact re2.dis k j d' d _ _ q hk ek2 e w1 h1
              exact ⟨q, rfl, q1, by rw [upd_ne hq]; exact q2, q3.mo s1, q4⟩
        · rcases set_at ek with ⟨_, _, hq⟩ | ⟨hk, ek2⟩
          · cases hq
          · rcases set_at em with ⟨_, _, hq⟩ | ⟨hm, em2⟩
            · cases hq
            · exact re2.dis k m _ _ _ _ q hkm ek2 em2 ejs
      refine ⟨upd F2 p u, sm.trans s1, re3, fun k hk d' p' ek => ?_⟩
      by_cases hkj : k ∈ js
      · exact (rp k hkj d' p' ek).mono s1
      · have : k = j := by rcases List.mem_cons.mp hk with h | h; exact h; exact absurd h hkj
        subst this
        have e' : (wipeE ρ js)[k]? = some (Cell.ow d' (some p')) := by
          obtain ⟨_, e2⟩ := wipeE_ow e
          rw [ek] at e2
          cases e2
          exact e
        rw [e] at e'
        cases e'
        have := hz p' rfl
        subst this
        exact rpp
    · refine ⟨F2, sm, re2.forget j, fun k hk d' p' ek => ?_⟩
      by_cases hkj : k ∈ js
      · exact rp k hkj d' p' ek
      · have : k = j := by rcases List.mem_cons.mp hk with h | h; exact h; exact absurd h hkj
        subst this
        exfalso
        refine hc ⟨d', some p', ?_⟩
        have : ∀ js : List Nat, k ∉ js → (wipeE ρ js)[k]? = ρ[k]? := by
          intro js
          induction js with
          | nil => intro _; rfl
          | cons a js ih =>
            intro h
            rw [List.mem_cons, not_or] at h
            show ((wipeE ρ js).set a .no)[k]? = _
            rw [List.getElem?_set_ne (Ne.symm h.1)]
            exact ih h.2
        rw [this js hkj]; exact ek
theorem wipeE_out {ρ : Env} {k : Nat} : ∀ {js : List Nat}, k ∉ js → (wipeE ρ js)[k]? = ρ[k]?
  | [], _ => rfl
  | a :: js, h => by
    rw [List.mem_cons, not_or] at h
    show ((wipeE ρ js).set a .no)[k]? = _
    rw [List.getElem?_set_ne (Ne.symm h.1)]
    exact wipeE_out h.2
theorem rs_deep {st : Stmt} {n0 i : Nat} {a : CS} (h : PS X st (rdS X.K E a)) : PS X st (rdS X.K E (sDeep n0 i a)) := h.imp fun Dn σ H ⟨F, ρ, W, re, h, l⟩ => by
  obtain ⟨ds, z, hi, ei, h⟩ := h
  obtain ⟨F2, sm, re2, rp⟩ := re.frzs (ghL n0 ρ) fun _ _ _ _ _ => trivial
  have hni : i ∉ ghL n0 ρ := fun hm => by
    unfold ghL at hm
    obtain ⟨k, _, e⟩ := List.mem_map.mp hm
    omega
  have ei2 : (wipeE ρ (ghL n0 ρ))[i]? = some (.ow (.lst ds) z) := by rw [wipeE_out hni]; exact ei
  obtain ⟨v, h1, p, rfl, hB, hF, ⟨vs, hp, r⟩, hz⟩ := re2.cell i _ ei2
  -- the items, read below
  have items : ∀ {vs : List V} {ds : List D}, RepL X.K F2 vs ds → RepL X.K F2 vs (ds.map (deref n0 ρ)) := by
    intro vs ds r
    induction ds generalizing vs with
    | nil => cases r; exact .nil
    | cons d ds ih =>
      cases r with
      | cons rd rt =>
        rw [List.map_cons]
        refine .cons ?_ (ih rt)
        unfold deref
        split
        · rename_i q
          split
          · rename_i j d' e
            obtain ⟨hj, e⟩ := findG_is e
            cases rd
            refine rp j ?_ d' q e
            unfold ghL
            have := lt_of_at e
            exact List.mem_map.mpr ⟨j - n0, List.mem_range.mpr (by omega), by omega⟩
          · exact rd
        · exact rd
  obtain ⟨s1, s2⟩ := Grow.frz1 re2.fh hF hp
  refine ⟨upd F2 p (.lst vs), _, W, ?_, h, l⟩
  have rpp : Rep X.K (upd F2 p (.lst vs)) (.ref p) (.lst (ds.map (deref n0 ρ))) := .lst upd_same ((items r).mono s1)
  refine ⟨re2.bh, re2.f0.trans s1, s2, fun b w z => ?_, by rw [List.length_set]; exact re2.len, fun k c ek => ?_, fun k m d1 d2 z1 z2 q hkm ek em ejs => ?_⟩
  · by_cases hb : b = p
    · subst hb; exact .inr hB
    · rw [upd_ne hb] at z; exact re2.fr b w z
  · rcases set_at ek with ⟨rfl, hi, rfl⟩ | ⟨hk, ek2⟩
    · exact ⟨_, h1, _, rfl, rpp⟩
    · obtain ⟨w, w1, w2⟩ := re2.cell k c ek2
      refine ⟨w, w1, ?_⟩
      cases c with
      | no => trivial
      | sh d => obtain ⟨x, rfl, r⟩ := w2; exact ⟨x, rfl, r.mono s1⟩
      | ow d' z' =>
        obtain ⟨q, rfl, q1, q2, q3, q4⟩ := w2
        have hq : q ≠ p := fun z => by
          subst z
          exact re2.dis k i d' _ _ _ q hk ek2 ei2 w1 h1
        exact ⟨q, rfl, q1, by rw [upd_ne hq]; exact q2, q3.mo s1, q4⟩
  · rcases set_at ek with ⟨_, _, hq⟩ | ⟨hk, ek2⟩
    · cases hq
    · rcases set_at em with ⟨_, _, hq⟩ | ⟨hm, em2⟩
      · cases hq
      · exact re2.dis k m _ _ _ _ q hkm ek2 em2 ejs
end
def sPile : SR := fun r g st => if ghB g = true then match st with
  | .Expr (.Call (.Attribute (.Name x _) m ap) [a] [] cp) _ => if m = ("append" : Str) ∧ (ap.endLine == cp.line) = true ∧ plainE a = true then match slotOf g x with
    | some i => if i ∈ g.own then (match a with | .List .. => (r.v g a).map (sPark (gh0 g.N) i) | _ => none) else (fOf r g a).map (sAppG (gh0 g.N) i)
    | none => none else none
  | .Return (some e) _ => match g.own with
    | [i] => (fOf r (minus g [i]) e).map fun c => sDeep (gh0 g.N) i (sRet c)
    | _ => none
  | _ => none
  else none
theorem sPile_ok : SrOk sPile := by
  intro r R X g E st c ok hp h
  unfold sPile at h
  split at h
  · rename_i hg
    have gh := fun j hj => ghB_is ok hg (j := j) hj
    split at h
    · split at h
      · rename_i hm
        obtain ⟨rfl, hl, hpl⟩ := hm
        split at h
        · rename_i i h1
          obtain ⟨q1, q2, q3, q4⟩ := slotOf_is h1
          split at h
          · split at h
            · obtain ⟨u, h2, rfl⟩ := map_some h
              exact rs_park gh (by rw [ok.N]; exact q1) (by rw [ok.sc]; exact q2) q3 q4 (R.v ok h2) rfl (few1 hpl) hl (plain_star hpl) rfl (noComp_sw rfl _ _)
            · cases h
          · obtain ⟨u, h2, rfl⟩ := map_some h
            exact rs_appG (by rw [ok.N]; exact q1) (by rw [ok.sc]; exact q2) q3 q4 (fOf_ok R ok h2) rfl (few1 hpl) hl (plain_star hpl) rfl (noComp_sw rfl _ _)
        · cases h
      · cases h
    · split at h
      · obtain ⟨u, h2, rfl⟩ := map_some h
        exact rs_deep (rs_ret (fOf_ok R (minus_ok ok _) h2))
      · cases h
    · cases h
  · cases h
def rules3 : Rules where
  v := vIxG :: rules2.v
  i := rules2.i
  s := sPile :: rules2.s
theorem rules3_ok : RulesOk rules3 where
  v := fun f hf => by
    rcases List.mem_cons.mp hf with rfl | hf
    · exact vIxG_ok
    · exact rules2_ok.v f hf
  i := rules2_ok.i
  s := fun f hf => by
    rcases List.mem_cons.mp hf with rfl | hf
    · exact sPile_ok
    · exact rules2_ok.s f hf
end DL
namespace DL
open PySem L2 PySem.Spec PyProof.Rows

/-! ### fields of instances -/
/-- the fields of the class c that no class of it has as a name of its own -/
def clsF (gl : List (Str × GV)) (c : Str) : List Str := match gl.lookup c with
  | some (.cls fl) => fl
  | _ => []
theorem clsF_is {X : Cx} {g : Sg} {E : EX} (ok : SgOk X g E) {c f : Str} (h : (clsF g.gl c).contains f = true) : ∃ C, ClsAt X.K c C ∧ X.mg c = some (.ref C) ∧ Cls X.K C ∧ NoAttr X.K C f := by
  unfold clsF at h
  split at h
  · rename_i fl e
    obtain ⟨C, h1, h2, h3, h4⟩ := ok.gl _ _ e
    exact ⟨C, h1, h2, h3.cl, h4 f (by simpa using h)⟩
  · simp at h
def fldM (gl : List (Str × GV)) (f : Str) : D → M (D × Bool)
  | .obj c fs => fun Q _ => (clsF gl c).contains f = true ∧ match fs.lookup f with
    | some d => Q (d, false)
    | none => False
  | _ => fail
def cFld (gl : List (Str × GV)) (f : Str) (a : CB) : CV := fun ρ => bnd (a ρ) (fldM gl f)
theorem re_fld {X : Cx} {g : Sg} {E : EX} {e : Expr} {f : Str} {xa : CB} {pos : Pos} (ok : SgOk X g E) (ha : PE X e (rdB X.K E xa)) (hb : attributeBase e f X.env (eval e X.env) = eval e X.env) : PE X (.Attribute e f pos) (rdV X.K E (cFld g.gl f xa)) :=
  (pe_fld ha hb).imp fun σ H Q' ⟨F, ρ, Q, re, h, k⟩ => ⟨F, ρ, _, re, h, fun v H1 F1 d g1 b1 h1 => by
    have h1 : fldM g.gl f d Q (E.at ρ) := h1
    unfold fldM at h1
    split at h1
    · rename_i c fs
      obtain ⟨hf, h1⟩ := h1
      split at h1
      · rename_i d' el
        obtain ⟨C, hc, hm, hcl, hno⟩ := clsF_is ok hf
        rcases b1 with b | ⟨p, rfl, o⟩
        · cases b with
          | @obj a _ gs _ oa rf =>
            obtain ⟨C', dx, hc', hi⟩ := oa
            have := hc.one hc'
            subst this
            obtain ⟨w, lw, rw'⟩ := rf.look el
            exact ⟨a, C, dx, gs, w, rfl, (re.grow g1).fh _ _ hi, hcl, hno, lw, k w H1 F1 (d', false) g1 (Val.of rw') h1⟩
        · obtain ⟨gs, ⟨C', dx, hc', hi⟩, rf⟩ := o
          have := hc.one hc'
          subst this
          obtain ⟨w, lw, rw'⟩ := rf.look el
          exact ⟨p, C, dx, gs, w, rfl, hi, hcl, hno, lw, k w H1 F1 (d', false) g1 (Val.of rw') h1⟩
      · exact h1.elim
    · exact h1.elim⟩
def noCallE : Expr → Bool
  | .Call .. => false
  | _ => true
theorem noCall_base {e : Expr} {f : Str} {env : PySem.Env} (h : noCallE e = true) : attributeBase e f env (eval e env) = eval e env := by
  cases e <;> first | rfl | cases h
def vFld : VR := fun r g e => match e with
  | .Attribute a f _ => if noCallE a = true then (bOf r g a).map (cFld g.gl f) else none
  | _ => none
theorem vFld_ok : VrOk vFld := by
  intro r R X g E e c ok h
  unfold vFld at h
  split at h
  · split at h
    · rename_i hp
      obtain ⟨xa, h1, rfl⟩ := map_some h
      exact re_fld ok (bOf_ok R ok h1) (noCall_base hp)
    · cases h
  · cases h
end DL
namespace DL
open PySem L2 PySem.Spec PyProof.Rows

/-! ### methods of instances that do not change -/
/-- how o.m(..) goes -/
def mcall (o : Expr) (m : Str) (ap : Pos) (es : List Expr) (pos : Pos) (pl : Sem Bool) (env : PySem.Env) : Sem Value := do let ov ← eval o env; standAt ap.atName; let (f, first) ← holding [ov] (getMethod ov m pl); callWith pos f first (backTo pos (starEach es env)) (backToKw pos (keywordEach [] env))
/-- the class at C has a method m that keeps sp -/
def MetAt (X : Cx) (C : Addr) (m : Str) (sp : Sp) : Prop := ∃ (k : Nat) (f : Addr) (fd : FuncData) (ps : List Str), Cls X.K C ∧ Meth X.K C m f ∧ FnG X.prog X.w X.K X.mg X.base (L2.CX X.prog X.w) k f fd ps sp ∧ Room k X.A ∧ Binds X.K fd ps []
def tMetD (X : Cx) (m : Str) (E : L2.St → XK) (to : TE) (t : TA) : TE := fun σ H Q => to σ H fun x H1 => ∃ (a C dx : Addr) (fs : List (Str × V)) (sp : Sp), x = .ref a ∧ H1 a = some (.ins C dx fs) ∧ fs.lookup m = none ∧ MetAt X C m sp ∧ t σ H1 fun vs H2 => sp (x :: vs) H2 Q (E σ)
section
variable {X : Cx} {E : L2.St → XK} {m : Str} {pos ap : Pos} {o e : Expr} {es : List Expr} {to : TE} {t : TA} {pl : Sem Bool}
theorem pe_metD (ho : PE X o to) (gd : X.A.guards = some []) (hx : ∀ σ, PassesAt (L2.CX X.prog X.w) X σ (E σ)) (ha : PA X (e :: es) t) (hs : starEach (e :: es) X.env = (false, eval e X.env) :: starEach es X.env) (hpl : (backTo pos (starEach es X.env)).any (·.1) = false)
    (ht : eval (.Call (.Attribute o m ap) (e :: es) [] pos) X.env = mcall o m ap (e :: es) pos pl X.env) : PE X (.Call (.Attribute o m ap) (e :: es) [] pos) (tMetD X m E to t) :=
  ⟨fun pins s σ H Q I h => by
    refine PySem.W.methodCall_KW (pl := pl) (thn (ho.run pins s σ H _ I h) ?_) ht
    rintro u s1 ⟨x, H1, I1, rx, a, C, dx, fs, sp, rfl, ea, l, ⟨k, f, fd, ps, c, hm, F, hr, hb⟩, q⟩
    cases rx
    refine getmeth_ok I1 ea c hm l ?_
    refine PySem.W.callWith_K (first := [.ref a]) (h₀ := X.base) I.ok.mod.kin hm.kp (thn (ha.run pos pins s1 σ H1 _ I1 q) ?_) hs hpl
    rintro us s2 ⟨vs, H2, I2, r, q2⟩
    have r2 : Vals (V.ref a :: vs) (Value.ref a :: us) := .cons rfl r
    have hl : ((Value.ref a :: us) ++ []).length = ps.length := by rw [List.append_nil, ← r2.length]; exact F.len _ _ _ _ q2
    have b := hb s2 (Value.ref a :: us) I2.kIn hl
    rw [List.append_nil] at b
    exact ⟨I2.kIn, runG (args := ⟨Value.ref a :: us, []⟩) (ws := []) F hr gd b (hx σ) I2 r2 q2⟩⟩
theorem pe_metD0 (ho : PE X o to) (gd : X.A.guards = some []) (hx : ∀ σ, PassesAt (L2.CX X.prog X.w) X σ (E σ)) (ht : eval (.Call (.Attribute o m ap) [] [] pos) X.env = mcall o m ap [] pos pl X.env) : PE X (.Call (.Attribute o m ap) [] [] pos) (tMetD X m E to tNil) :=
  ⟨fun pins s σ H Q I h => by
    refine PySem.W.methodCall_KW (pl := pl) (thn (ho.run pins s σ H _ I h) ?_) ht
    rintro u s1 ⟨x, H1, I1, rx, a, C, dx, fs, sp, rfl, ea, l, ⟨k, f, fd, ps, c, hm, F, hr, hb⟩, q⟩
    cases rx
    refine getmeth_ok I1 ea c hm l ?_
    have q2 : sp [V.ref a] H1 Q (E σ) := q
    have r2 : Vals [V.ref a] [Value.ref a] := .cons rfl .nil
    have hl : ([Value.ref a] ++ []).length = ps.length := by rw [List.append_nil, ← r2.length]; exact F.len _ _ _ _ q2
    have b := hb s1 [Value.ref a] I1.kIn hl
    rw [List.append_nil] at b
    exact PySem.W.callWith_K0 (first := [.ref a]) I1.kIn hm.kp (runG (args := ⟨[Value.ref a], []⟩) (ws := []) F hr gd b (hx σ) I1 r2 q2)⟩
end
/-- the table's name of a method -/
def clsKey (c m : Str) : Str := c ++ "." ++ m
def cMeth (gl : List (Str × GV)) (m : Str) (a : CB) (l : CL) : CV := fun ρ => bnd (a ρ) fun o Q E => match o with
  | .obj c fs => match gl.lookup (clsKey c m) with
    | some (.me c' m' n mm _) => (c' = c ∧ m' = m ∧ fs.lookup m = none) ∧ l ρ (fun ds => callD n mm (.obj c fs :: ds) Q E) E
    | _ => False
  | _ => False
theorem re_met {X : Cx} {g : Sg} {E : EX} {m : Str} {pos ap : Pos} {o e : Expr} {es : List Expr} {pl : Sem Bool} {n : Nat} {xo : CB} {cl : CL} (ok : SgOk X g E) (ho : PE X o (rdF X.K E xo)) (ha : PA X (e :: es) (rdL X.K E n cl))
    (hs : starEach (e :: es) X.env = (false, eval e X.env) :: starEach es X.env) (hpl : (backTo pos (starEach es X.env)).any (·.1) = false) (ht : eval (.Call (.Attribute o m ap) (e :: es) [] pos) X.env = mcall o m ap (e :: es) pos pl X.env) :
    PE X (.Call (.Attribute o m ap) (e :: es) [] pos) (rdV X.K E (cMeth g.gl m xo cl)) :=
  (pe_metD ho ok.gd (fun σ => passAt ok.tk σ) ha hs hpl ht).imp fun σ H Q' ⟨F, ρ, Q, re, h, kq⟩ => ⟨F, ρ, _, re, h, fun v H1 F1 d g1 b1 h1 => by
    cases d <;> first | exact (show False from h1).elim | skip
    rename_i c fs
    have h1 : (match g.gl.lookup (clsKey c m) with | some (.me c' m' n mm _) => (c' = c ∧ m' = m ∧ fs.lookup m = none) ∧ cl ρ (fun ds => callD n mm (.obj c fs :: ds) Q (E.at ρ)) (E.at ρ) | _ => False) := h1
    split at h1
    · rename_i c' m' n' mm kw' el
      obtain ⟨⟨rfl, rfl, hl⟩, h1⟩ := h1
      obtain ⟨C, k, f, fd, ps, hc, hcl, hme, hF, hr, hb, rfl, _⟩ := ok.gl _ _ el
      cases b1 with
      | @obj a _ gs _ oa rf =>
        obtain ⟨C', dx, hc', hi⟩ := oa
        have := hc.one hc'
        subst this
        refine ⟨a, C, dx, gs, _, rfl, (re.grow g1).fh _ _ hi, rf.none hl, ⟨k, f, fd, ps, hcl, hme, hF, hr.mono (Nat.le_succ _), hb⟩, F1, ρ, _, re.grow g1, h1, fun vs H2 F2 ds g2 r2 _ q => ?_⟩
        have rr : RepL X.K F2 (V.ref a :: vs) (.obj c' fs :: ds) := .cons ((Rep.obj ⟨C, dx, hc, hi⟩ rf).mono g2.f) r2
        exact sp_of (fl := false) kq (g1.trans g2) rr q re.err
    · exact h1.elim⟩
theorem re_met0 {X : Cx} {g : Sg} {E : EX} {m : Str} {pos ap : Pos} {o : Expr} {pl : Sem Bool} {xo : CB} (ok : SgOk X g E) (ho : PE X o (rdF X.K E xo)) (ht : eval (.Call (.Attribute o m ap) [] [] pos) X.env = mcall o m ap [] pos pl X.env) :
    PE X (.Call (.Attribute o m ap) [] [] pos) (rdV X.K E (cMeth g.gl m xo cNil)) :=
  (pe_metD0 ho ok.gd (fun σ => passAt ok.tk σ) ht).imp fun σ H Q' ⟨F, ρ, Q, re, h, kq⟩ => ⟨F, ρ, _, re, h, fun v H1 F1 d g1 b1 h1 => by
    cases d <;> first | exact (show False from h1).elim | skip
    rename_i c fs
    have h1 : (match g.gl.lookup (clsKey c m) with | some (.me c' m' n mm _) => (c' = c ∧ m' = m ∧ fs.lookup m = none) ∧ callD n mm [.obj c fs] Q (E.at ρ) | _ => False) := h1
    split at h1
    · rename_i c' m' n' mm kw' el
      obtain ⟨⟨rfl, rfl, hl⟩, h1⟩ := h1
      obtain ⟨C, k, f, fd, ps, hc, hcl, hme, hF, hr, hb, rfl, _⟩ := ok.gl _ _ el
      cases b1 with
      | @obj a _ gs _ oa rf =>
        obtain ⟨C', dx, hc', hi⟩ := oa
        have := hc.one hc'
        subst this
        refine ⟨a, C, dx, gs, _, rfl, (re.grow g1).fh _ _ hi, rf.none hl, ⟨k, f, fd, ps, hcl, hme, hF, hr.mono (Nat.le_succ _), hb⟩, ?_⟩
        have rr : RepL X.K F1 [V.ref a] [.obj c' fs] := .cons (Rep.obj ⟨C, dx, hc, hi⟩ rf) .nil
        exact sp_of (fl := false) kq g1 rr h1 re.err
    · exact h1.elim⟩
end DL
namespace DL
open PySem L2 PySem.Spec PyProof.Rows
theorem meth_eval {o : Expr} {m : Str} {ap pos : Pos} {es : List Expr} {env : PySem.Env} (h : noCallE o = true) (hp : es.all plainE = true) (hn : es.length < 30) (hl : (ap.endLine == pos.line) = true) :
    ∃ pl, eval (.Call (.Attribute o m ap) es [] pos) env = mcall o m ap es pos pl env := by
  refine ⟨(do return (← importBound o env).getD true), ?_⟩
  have few : methodCallForm (es.length + ([] : List Keyword).length) (backTo pos (starEach es env)) (backToKw pos (keywordEach [] env)) = true := by
    have a := plains_pl (env := env) (pos := pos) hp
    have b : (backTo pos (starEach es env)).all (fun x => !x.1) = true := by
      rw [List.all_eq_true]
      intro x hx
      rw [List.any_eq_false] at a
      simpa using a x hx
    show ((backTo pos (starEach es env)).all (fun x => !x.1) && true && decide (es.length + 0 + 0 < 30)) = true
    rw [b, Bool.true_and, Bool.true_and]
    exact decide_eq_true (by omega)
  show (attributeBase o m env (eval o env) >>= fun ov => standAt ap.atName >>= fun _ => methodCall o m ap pos env ov (es.length + ([] : List Keyword).length) (backTo pos (starEach es env)) (backToKw pos (keywordEach [] env))) = _
  rw [noCall_base h]
  unfold methodCall calleeOf methodCallPos
  rw [few, hl]
  rfl

def vMeth : VR := fun r g e => match e with
  | .Call (.Attribute o m ap) es [] pos => if (noCallE o && (decide (es.length < 30) && (ap.endLine == pos.line))) = true then match fOf r g o, lOf r g es with
    | some a, some l => some (cMeth g.gl m a l)
    | _, _ => none else none
  | _ => none
theorem vMeth_ok : VrOk vMeth := by
  intro r R X g E e c ok h
  unfold vMeth at h
  split at h
  · rename_i o m ap es pos
    split at h
    · rename_i hp
      rw [Bool.and_eq_true, Bool.and_eq_true, decide_eq_true_eq] at hp
      obtain ⟨h1, h2, h3⟩ := hp
      split at h
      · rename_i a l ha hl
        cases h
        have ho := fOf_ok (E := E) R ok ha
        obtain ⟨q1, q2⟩ := lOf_ok (E := E) R ok hl
        obtain ⟨pl, he⟩ := meth_eval (m := m) (env := X.env) h1 q2 h2 h3
        cases es with
        | nil =>
          simp only [lOf, Option.some.injEq] at hl
          subst hl
          exact re_met0 ok ho he
        | cons e es =>
          rw [List.all_cons, Bool.and_eq_true] at q2
          exact re_met ok ho q1 (plain_star q2.1) (plains_pl q2.2) he
      · cases h
    · cases h
  · cases h
def rules4 : Rules where
  v := vFld :: (rules3.v ++ [vMeth])
  i := rules3.i
  s := rules3.s
theorem rules4_ok : RulesOk rules4 where
  v := fun f hf => by
    rcases List.mem_cons.mp hf with rfl | hf
    · exact vFld_ok
    · rcases List.mem_append.mp hf with hf | hf
      · exact rules3_ok.v f hf
      · have := List.mem_singleton.mp hf
        subst this
        exact @vMeth_ok
  i := rules3_ok.i
  s := rules3_ok.s
end DL
namespace DL
open PySem L2 PySem.Spec PyProof.Rows
section
variable {X : Cx} {k : Nat} {C p g a dx : Addr} {gs : List (Str × V)} {f : Str} {fd : FuncData} {ps : List Str} {sp : Sp} {e : Expr} {pos : Pos} {te : TE}
theorem propG {pins : List (Addr × Obj)} {σ : L2.St} {H : Hp} {s : Shared} {Q : VK} {b : Bool} {E' : Value → Shared → Prop} (I : Inv X pins σ H s) (ea : H a = some (.ins C dx gs)) (c : Cls X.K C) (hp : PropOf X.K C f p g)
    (F : FnG X.prog X.w X.K X.mg X.base (L2.CX X.prog X.w) k g fd ps sp) (hr : Room (k + 1) X.A) (gd : X.A.guards = some []) (hb : Binds X.K fd ps []) (h : sp [V.ref a] H Q (fun _ _ _ => False)) : wpAny (model X.prog X.w) X.A (getAttr (.ref a) f b) (EP X pins σ Q) E' s := by
  obtain ⟨_, O, _, _, _, _⟩ := ins_get I.hok ea
  obtain ⟨od, J, _⟩ := O.look
  obtain ⟨rest, hrec⟩ := hp.rec_
  have J1 := I.tok (s.toks + 1)
  have hl : ([Value.ref a] ++ []).length = ps.length := by rw [← F.len _ _ _ _ h]; rfl
  have hcs : (PySem.W.clsIn X.K C).isSome = true := by
    obtain ⟨cd, hcd, _⟩ := PySem.W.any_some c.hd
    rw [hcd]; rfl
  have r2 : Vals [V.ref a] [Value.ref a] := .cons rfl .nil
  have bd := hb { s with toks := s.toks + 1 } [Value.ref a] J1.kIn hl
  rw [List.append_nil] at bd
  refine PySem.W.get_bind I.kIn J (PySem.W.plainGet_of (c.get f)).1 (PySem.W.findObj_data hcs hp.at_ hp.get hp.tak) (PySem.W.plainGet_of (c.get f)).2 (wpAny_call (PySem.W.prop_get (s := { s with toks := s.toks + 1 }) I.kIn hrec ?_))
  refine codeAny_mono (F.run X.A.in1 X.stack { s with toks := s.toks + 1 } H ⟨[.ref a], []⟩ [.ref a] [.ref a] Q (fun _ _ _ => False) hr.in1 gd J1.env0.in1 bd r2 h) ?_
  intro r s' hq
  rcases r with er | fl
  · exact (cx_no hq).elim
  · cases fl with
    | ret u =>
      obtain ⟨v, H', J3, rv, q3⟩ := J1.after hq
      show wpAny _ _ (handedOut u) _ _ _
      rw [PySem.W.handedOut_of (handed_of rv)]
      exact wpAny_pure ⟨v, H', J3, rv, q3⟩
    | next => exact hq.elim
    | brk => exact hq.elim
    | cont => exact hq.elim
end

def tAttD (X : Cx) (f : Str) (te : TE) : TE := fun σ H Q => te σ H fun x H1 => ∃ (a C dx : Addr) (fs : List (Str × V)), x = .ref a ∧ H1 a = some (.ins C dx fs) ∧ Cls X.K C ∧ ((NoAttr X.K C f ∧ ∃ v, fs.lookup f = some v ∧ Q v H1) ∨
  ∃ (k : Nat) (p g : Addr) (fd : FuncData) (ps : List Str) (sp : Sp), PropOf X.K C f p g ∧ FnG X.prog X.w X.K X.mg X.base (L2.CX X.prog X.w) k g fd ps sp ∧ Room (k + 1) X.A ∧ Binds X.K fd ps [] ∧ sp [x] H1 Q (fun _ _ _ => False))
theorem pe_attD {X : Cx} {f : Str} {e : Expr} {pos : Pos} {te : TE} (he : PE X e te) (gd : X.A.guards = some []) (hb : attributeBase e f X.env (eval e X.env) = eval e X.env) : PE X (.Attribute e f pos) (tAttD X f te) :=
  ⟨fun pins s σ H Q I h => by
    refine attr_of hb (thn (he.run pins s σ H _ I h) ?_)
    rintro u s1 ⟨x, H1, I1, rx, a, C, dx, fs, rfl, ea, c, h2⟩
    cases rx
    rcases h2 with ⟨n, v, l, q⟩ | ⟨k, p, g, fd, ps, sp, hp, F, hr, hbd, q⟩
    · exact getattr_ok I1 ea c n l fun u' s2 I2 ru => ⟨v, H1, I2, ru, q⟩
    · exact propG I1 ea c hp F hr gd hbd q⟩
/-- e.f: a property of the class, or a field -/
def cAtt (gl : List (Str × GV)) (f : Str) (a : CB) : CV := fun ρ => bnd (a ρ) fun o Q E => match o with
  | .obj c fs => match gl.lookup (clsKey c f) with
    | some (.pr c' f' mm) => (c' = c ∧ f' = f) ∧ callD 1 mm [.obj c fs] Q (fun _ => False)
    | _ => (clsF gl c).contains f = true ∧ match fs.lookup f with
      | some d => Q (d, false)
      | none => False
  | _ => False
theorem re_att {X : Cx} {g : Sg} {E : EX} {e : Expr} {f : Str} {xa : CB} {pos : Pos} (ok : SgOk X g E) (ha : PE X e (rdF X.K E xa)) (hb : attributeBase e f X.env (eval e X.env) = eval e X.env) : PE X (.Attribute e f pos) (rdV X.K E (cAtt g.gl f xa)) :=
  (pe_attD ha ok.gd hb).imp fun σ H Q' ⟨F, ρ, Q, re, h, kq⟩ => ⟨F, ρ, _, re, h, fun v H1 F1 d g1 b1 h1 => by
    cases d <;> first | exact (show False from h1).elim | skip
    rename_i c fs
    have h2 : (match g.gl.lookup (clsKey c f) with | some (.pr c' f' mm) => (c' = c ∧ f' = f) ∧ callD 1 mm [.obj c fs] Q (fun _ => False) | _ => (clsF g.gl c).contains f = true ∧ match fs.lookup f with | some d => Q (d, false) | none => False) := h1
    clear h1
    cases b1 with
    | @obj a _ gs _ oa rf =>
      obtain ⟨C', dx, hc', hi⟩ := oa
      have hi1 := (re.grow g1).fh _ _ hi
      split at h2
      · rename_i c' f' mm el
        obtain ⟨⟨rfl, rfl⟩, h2⟩ := h2
        obtain ⟨C, k, p, gg, fd, ps, hc, hcl, hp, hF, hr, hbd, hn⟩ := ok.gl _ _ el
        have := hc.one hc'
        subst this
        rw [← hn] at h2
        have rr : RepL X.K F1 [V.ref a] [.obj c' fs] := .cons (Rep.obj ⟨C, dx, hc, hi⟩ rf) .nil
        exact ⟨a, C, dx, gs, rfl, hi1, hcl, .inr ⟨k, p, gg, fd, ps, _, hp, hF, hr, hbd, sp_of (fl := false) kq g1 rr h2 fun _ _ _ _ _ _ _ q => q⟩⟩
      · obtain ⟨hf, h2⟩ := h2
        split at h2
        · rename_i d' el
          obtain ⟨C, hc, hm, hcl, hno⟩ := clsF_is ok hf
          have := hc.one hc'
          subst this
          obtain ⟨w, lw, rw'⟩ := rf.look el
          exact ⟨a, C, dx, gs, rfl, hi1, hcl, .inl ⟨hno, w, lw, kq w H1 F1 (d', false) g1 (Val.of rw') h2⟩⟩
        · exact h2.elim⟩
def vAtt : VR := fun r g e => match e with
  | .Attribute a f _ => if noCallE a = true then (fOf r g a).map (cAtt g.gl f) else none
  | _ => none
theorem vAtt_ok : VrOk vAtt := by
  intro r R X g E e c ok h
  unfold vAtt at h
  split at h
  · split at h
    · rename_i hp
      obtain ⟨xa, h1, rfl⟩ := map_some h
      exact re_att ok (fOf_ok R ok h1) (noCall_base hp)
    · cases h
  · cases h
def rules5 : Rules where
  v := vAtt :: (rules3.v ++ [vMeth])
  i := rules3.i
  s := rules3.s
theorem rules5_ok : RulesOk rules5 where
  v := fun f hf => by
    rcases List.mem_cons.mp hf with rfl | hf
    · exact @vAtt_ok
    · rcases List.mem_append.mp hf with hf | hf
      · exact rules3_ok.v f hf
      · have := List.mem_singleton.mp hf
        subst this
        exact @vMeth_ok
  i := rules3_ok.i
  s := rules3_ok.s
end DL
namespace DL
open PySem L2 PySem.Spec PyProof.Rows

/-! ### dicts by keys -/
def rIxK : R2 := fun x y H Q => ∃ a v, x = .ref a ∧ DGet H a y (some v) ∧ Q v H
theorem ix_dK {X : Cx} (hu : X.A.units + 1 < cLine) : IxR X rIxK := by
  intro value slice pins s σ H x y v u Q I rx ry h hs
  obtain ⟨a, w, rfl, g, q⟩ := h
  cases rx
  exact tail_any (dict_typeIs I g) PySem.F.slot_dict_getitem.lookup (d_getItem hu I g ry fun w' s3 I3 rw' => ⟨w, H, I3, rw', q⟩) hs
def ixM2 : D → D → M D
  | .dct kvs, y => fun Q _ => match keyD y with
    | some k => match getKD kvs k with
      | some d => Q d
      | none => False
    | none => False
  | x, y => ixM x y
theorem ix2_ok {X : Cx} (hu : X.A.units + 1 < cLine) : IxR X (rd X.K ixM2) := by
  intro value slice pins s σ H x y v u Q I rx ry h hs
  obtain ⟨F, dx, dy, Q2, E, sm, bx, by_, h, k⟩ := h
  cases dx with
  | dct kvs =>
    have h : (match keyD dy with | some k => (match getKD kvs k with | some d => Q2 d | none => False) | none => False) := h
    split at h
    · rename_i key ek
      split at h
      · rename_i d ed
        have hv := key_rep by_ ek
        subst hv
        have fin : ∀ a ks, x = .ref a → H a = some (.dK ks) → RepK X.K F ks kvs → wpAny (model X.prog X.w) X.A (subscriptTail value slice v u) (EP X pins σ Q) X.xe s := fun a ks ex ha rk => by
          obtain ⟨w, hw, rw'⟩ := (RepK.get (k := key) rk).1 d ed
          have g := DGet.k (k := key) ha
          rw [hw] at g
          exact ix_dK hu value slice pins s σ H x _ v u Q I rx ry ⟨a, w, ex, g, k _ _ rw' h⟩ hs
        rcases bx with b | ⟨p, rfl, o⟩
        · cases b with
          | dct h1 r1 => exact fin _ _ rfl (sm _ _ h1) r1
        · obtain ⟨ks, h1, r1⟩ := o
          exact fin _ _ rfl h1 r1
      · exact h.elim
    · exact h.elim
  | _ => exact ix_ok value slice pins s σ H x y v u Q I rx ry ⟨F, _, _, Q2, E, sm, bx, by_, h, k⟩ hs
def cIx2 (a b : CB) : CV := fun ρ => bnd (a ρ) fun x => bnd (b ρ) fun y => bnd (ixM2 x y) fun d => ret (d, false)
theorem re_ix2 {X : Cx} {E : EX} {a b : Expr} {xa xb : CB} {pos : Pos} (hu : X.A.units + 1 < cLine) (ha : PE X a (rdB X.K E xa)) (hb : PE X b (rdB X.K E xb)) (hs : PlainIx b) : PE X (.Subscript a b pos) (rdV X.K E (cIx2 xa xb)) :=
  (pe_ix (ix2_ok hu) ha hb hs).imp fun σ H Q' ⟨F, ρ, Q, re, h, k⟩ =>
    ⟨F, ρ, _, re, h, fun v H1 F1 d g1 b1 h1 => ⟨F1, ρ, _, re.grow g1, h1, fun u H2 F2 d2 g2 b2 h2 =>
      ⟨F2, d, d2, _, _, g2.fh, b1.grow g2, b2, h2, fun w d3 r3 q => k w H2 F2 (d3, false) (g1.trans g2) (Val.of r3) q⟩⟩⟩
def vIx2 : VR := fun r g e => match e with
  | .Subscript _ (.Slice ..) _ => none
  | .Subscript a b _ => if (!ghB g && plainE b) = true then match bOf r g a, bOf r g b with
    | some x, some y => some (cIx2 x y)
    | _, _ => none else none
  | _ => none
theorem vIx2_ok : VrOk vIx2 := by
  intro r R X g E e c ok h
  unfold vIx2 at h
  split at h
  · cases h
  · split at h
    · rename_i hp
      rw [Bool.and_eq_true] at hp
      split at h
      · cases h; exact re_ix2 (by have := ok.un; omega) (bOf_ok R ok ‹_›) (bOf_ok R ok ‹_›) (plain_ix hp.2)
      · cases h
    · cases h
  · cases h
def rules6 : Rules where
  v := vIx2 :: rules5.v
  i := rules5.i
  s := rules5.s
theorem rules6_ok : RulesOk rules6 where
  v := fun f hf => by
    rcases List.mem_cons.mp hf with rfl | hf
    · exact @vIx2_ok
    · exact rules5_ok.v f hf
  i := rules5_ok.i
  s := rules5_ok.s
end DL
/-! super().__init__(..) as a statement of a def -/
namespace DL
open PySem L2 PySem.Spec PyProof.Rows

/-- statements at a known place -/
structure PSsA (X : Cx) (c : Code) (st : List Stmt) (t : TS) : Prop where
  run : ∀ (pins : List (Addr × Obj)) (s : Shared) (σ : L2.St) (H : Hp) (D : Ends), Inv X pins σ H s → t D σ H → _root_.PySem.wpAt (model X.prog X.w) X.A c (execs st X.env) (SP X pins D) X.xe s
structure PSA (X : Cx) (c : Code) (st : Stmt) (t : TS) : Prop where
  run : ∀ (pins : List (Addr × Obj)) (s : Shared) (σ : L2.St) (H : Hp) (D : Ends), Inv X pins σ H s → t D σ H → _root_.PySem.wpAt (model X.prog X.w) X.A c (exec st X.env) (SP X pins D) X.xe s
section
variable {X : Cx} {c : Code} {st : Stmt} {ss : List Stmt} {t t1 t2 : TS}
theorem PSs.at (h : PSs X ss t) : PSsA X c ss t := ⟨fun pins s σ H D I hw => wpAt_of_wpAny (h.run pins s σ H D I hw)⟩
theorem PS.at (h : PS X st t) : PSA X c st t := ⟨fun pins s σ H D I hw => wpAt_of_wpAny (h.run pins s σ H D I hw)⟩
theorem PSA.imp {t' : TS} (h : PSA X c st t) (i : ∀ D σ H, t' D σ H → t D σ H) : PSA X c st t' := ⟨fun pins s σ H D I hw => h.run pins s σ H D I (i D σ H hw)⟩
theorem PSsA.imp {t' : TS} (h : PSsA X c ss t) (i : ∀ D σ H, t' D σ H → t D σ H) : PSsA X c ss t' := ⟨fun pins s σ H D I hw => h.run pins s σ H D I (i D σ H hw)⟩
theorem psa_cons (h1 : PSA X c st t1) (h2 : PSsA X c ss t2) : PSsA X c (st :: ss) (fun D σ H => t1 { D with nx := fun σ' H' => t2 D σ' H' } σ H) := ⟨fun pins s σ H D I hw => by
  refine PySem.ks_wpAt_execs_cons (PySem.ks_wpAt_mono (h1.run pins s σ H _ I hw) (fun f s' q => ?_) fun _ _ q => q)
  cases f with
  | next =>
    obtain ⟨σ', H', I', q⟩ := q
    exact h2.run pins s' σ' H' D I' q
  | brk => exact q
  | cont => exact q
  | ret u => exact q⟩
end

/-! ### the super object -/
abbrev supObj (D x C : Addr) : Obj := PySem.W.ks_superObj D x C
/-- what is told of a def that calls super(): its own function f, its code at cda, the cell of its class D at cc -/
structure SupF (X : Cx) (f cda cc D : Addr) (q : Str) (fst : Str) : Prop where
  env : ∃ L, X.env = PySem.W.ksEnv q X.env.scope L f (.ref cda) cc
  fn : ∃ (oc : Value) (od : Option Addr) (fd : FuncData) (sl : Array (Option Value)) (ar : Arg), X.K.lookup f = some ⟨oc, od, .func fd, sl⟩ ∧ (fd.params.posonlyargs ++ fd.params.args).head? = some ar ∧ ar.arg = fst
  code : ∃ (oc : Value) (od : Option Addr) (vs : Array Value) (sl : Array (Option Value)) (file : Str) (tf : Tok), X.K.lookup cda = some ⟨oc, od, .fields vs, sl⟩ ∧ vs[2]? = some (.str file tf) ∧ ((X.prog.main.file : Str) == file) = true
  top : (X.prog.main.scope.names.lookup ("super" : Str)).isSome = false
  cell : ∃ (oc : Value) (od : Option Addr) (sl : Array (Option Value)), X.K.lookup cc = some ⟨oc, od, .cell (some (.ref D)), sl⟩
  cls : (PySem.W.clsIn X.K D).isSome = true
  mg : X.mg "super" = none
  ksup : X.env.scope.names.lookup ("super" : Str) = some .globalImplicit
  kcls : X.env.scope.names.lookup ("__class__" : Str) = some .free
  kfst : X.env.scope.names.lookup fst = some .local
  kind : X.env.scope.kind = .function
theorem super_node {X : Cx} {f cda cc D a C : Addr} {q fst : Str} (S : SupF X f cda cc D q fst) {pins : List (Addr × Obj)} {σ : L2.St} {H : Hp} {s : Shared} {body : List Stmt} {p0 p1 : Pos} {attr : Str} {whole : Sem Value} {ox : Obj} {odx : Option Obj} {E : Value → Shared → Prop} {Q : Value → Shared → Prop} {i : Nat}
    (I : Inv X pins σ H s) (hN : X.N[i]? = some fst) (hs : σ[i]? = some (some (.ref a))) (J : PySem.W.InstAt s.heap a ox C odx) (hsub : PySem.W.mroIn X.K C (.ref D) = some true) (hat : (attr == ("__class__" : Str)) = false)
    (h : ∀ so h', Inv X ((so, supObj D a C) :: pins) σ H { s with heap := h' } → s.heap.objs.size ≤ so → so < h'.objs.size → (∀ b o, s.heap.get? b = some o → h'.get? b = some o) → Q (.ref so) { s with heap := h' }) :
    _root_.PySem.wpAt (model X.prog X.w) X.A (.func body X.env) (attributeBase (.Call (.Name "super" p0) [] [] p1) attr X.env whole) Q E s := by
  obtain ⟨L, he⟩ := S.env
  obtain ⟨oc1, od1, fd, sl1, ar, lf, har, hfst⟩ := S.fn
  obtain ⟨oc2, od2, vs, sl2, file, tf, lc, hvs, hfile⟩ := S.code
  obtain ⟨oc3, od3, sl3, lcell⟩ := S.cell
  have KX := I.kIn
  obtain ⟨oD, hD1, cdD, hD2⟩ : ∃ oD, s.heap.get? D = some oD ∧ ∃ cdD, oD.data = .cls cdD := by
    obtain ⟨cd, hcd⟩ := Option.isSome_iff_exists.mp S.cls
    unfold PySem.W.clsIn at hcd
    split at hcd
    · rename_i c d cd' sl ho
      exact ⟨_, KX _ _ ho, _, rfl⟩
    · cases hcd
  have efunc : X.env.func = some f := by rw [he]
  have ecode : X.env.code = .ref cda := by rw [he]
  have ecell : X.env.cells.lookup ("__class__" : Str) = some cc := by rw [he]; rfl
  obtain ⟨m, hns, hl⟩ := I.loc
  obtain ⟨mb, hb1, hb2⟩ := I.mod.blt
  refine PySem.ks_wpAt_super_base (env := X.env) S.ksup S.kcls hat efunc (KX _ _ lf) rfl har ecode (KX _ _ lc) rfl hvs hfile S.top ?_
  have hblt : mb "super" = some (.type "super") := (hb2 "super" (by decide)).trans (by kernel_rfl)
  refine PySem.W.ks_loadName_global S.kind S.ksup (PySem.Calls.loadGlobal_builtin (env := X.env) (mg := X.mg) (mb := mb) ?_ S.mg ?_ hblt ⟨rfl, ?_⟩)
  · rw [I.ok.glob]; exact I.mod.glob.keeps I.bk
  · rw [I.ok.blt]; exact hb1.keeps I.bk
  refine wpAny_loadName_free S.kind S.kcls ecell ⟨_, KX _ _ lcell, rfl⟩ ?_
  obtain ⟨u, ru, lk⟩ := hl i fst _ hN hs (.inl S.kfst)
  cases ru
  have hm : m fst = some (.ref a) := by
    rcases lk with ⟨_, e⟩ | ⟨k, _⟩
    · exact e
    · rcases k with k | k
      · rw [show X.env.kindOf fst = _ from S.kfst] at k; cases k
      · rw [show X.env.kindOf fst = _ from S.kfst] at k; cases k
  rw [hfst]
  refine wpAny_loadName_local S.kind S.kfst hns hm ?_
  obtain ⟨hh, g, d, t, os⟩ := s
  refine PySem.ks_wpAny_isType_cls hD1 hD2 ⟨rfl, ?_⟩
  refine PySem.ks_wpAny_call_super hD1 hD2 J.at_ J.cls (fun c e => ?_) (PySem.W.looks_mroIn KX hsub) (fun h' e k => ?_)
  · have := J.no
    unfold PySem.W.notCls at this
    rw [e] at this
    exact Bool.noConfusion this
  · have I2 : Inv X ((hh.objs.size, supObj D a C) :: pins) σ H ⟨h', g, d, t, os⟩ := ClX.pin_new (t' := t) I k (Nat.le_refl _) e (fun v z => nomatch z)
    exact h _ h' I2 (Nat.le_refl _) (Heap.lt_size e) k

/-! ### ValueError.__init__ by super() -/
section
open PySem.W PySem.Calls
variable {prog : Program} {w : World} {A : Around} {E : Value → Shared → Prop} {h : Heap} {g : Array GenState} {d : Drawn} {t : Nat} {os : OsState}
theorem call_mw {nm q : Str} {C N : Addr} {bs bm : List Value} {hdct : Bool} {sn : List Str} {sub : List Value} {ab : Bool} {col : Option Bool} {dd : Option Addr} {k0 k1 k2 k3 k5 : Option Value} {u e t0 : Addr} {dv : Option Addr} {rest : List Value} {Q : Value → Shared → Prop}
    (hC : h.get? C = some (excClassObj nm q C N bs bm hdct sn sub ab col dd k0 k1 k2 k3 k5 "ValueError.__new__")) (he : h.get? e = some ({ cls := .ref C, dict := dv, data := .fields #[.ref t0, .none, .none, .none, .bool false, .none] } : Obj))
    (hu : h.get? u = some (kxs_mw "ValueError.__init__" e)) (hrest : rest.length ≤ sizeLine)
    (hq : ∀ h' t1, (∀ b o, b ≠ e → h.get? b = some o → h'.get? b = some o) → h'.get? e = some ({ cls := .ref C, dict := dv, data := .fields #[.ref t1, .none, .none, .none, .bool false, .none] } : Obj) → Q .none ⟨h', g, d, t, os⟩) :
    wpAny (model prog w) A (call (.ref u) rest) Q E ⟨h, g, d, t, os⟩ := by
  refine wpAny_call (codeAny_of_tree ?_)
  show wpAny _ A.in1 (callAny (.ref u) ⟨rest, []⟩) _ _ _
  simp only [callAny]
  refine wpAny_bind (wpAny_load hu ?_)
  simp only [kxs_mw, show (Value.type "method-wrapper" == Value.type "method" || Value.type "method-wrapper" == Value.type "builtin_function_or_method" || Value.type "method-wrapper" == Value.type "method-wrapper") = true by decide, if_true]
  refine KFB.if_so (by decide) ?_
  refine wpAny_bind (check_bound_init F.excBase_ValueError.toExcCallFacts hC he rfl ?_)
  refine wpAny_bind (wpAny_pure (wpAny_pure ?_))
  refine ⟨plainId_quiet F.excBase_ValueError.init.plain _, codeAny_builtin F.excBase_ValueError.initEntry ?_⟩
  exact exc_init_tree (cls := .ref C) (t0 := t0) (dv := dv) (c2 := .none) (c3 := .none) (b4 := .bool false) he hrest fun h' k e' _ => hq h' h.objs.size k e'
end
/-- super().__init__(..) of an error that is being made: nothing of it is told -/
def tSupE (K : PySem.W.Frag) (D : Addr) (i : Nat) (ta : TA) : TS := fun Dn σ H => ∃ a C, σ[i]? = some (some (.ref a)) ∧ OexC K C ∧ H a = some (exo a C none) ∧ PySem.W.mroIn K C (.ref D) = some true ∧ PySem.W.subIn K (.ref C) (.type "ValueError") = some true ∧ PySem.W.ks_superIn K C D "__init__" = some (some (.builtin "ValueError.__init__")) ∧
  PySem.W.nsIn K cStatics "thirdparty.any" = some none ∧ ta σ H fun vs H1 => vs.length ≤ 1000 ∧ H1 a = some (exo a C none) ∧ Dn.nx σ H1
theorem psa_supE {X : Cx} {f cda cc D : Addr} {q fst : Str} (S : SupF X f cda cc D q fst) {i : Nat} (hN : X.N[i]? = some fst) {body : List Stmt} {p0 p1 ap pos pos2 : Pos} {e : Expr} {es : List Expr} {ta : TA} (ha : PA X (e :: es) ta)
    (hs : starEach (e :: es) X.env = (false, eval e X.env) :: starEach es X.env) (hpl : (backTo pos (starEach es X.env)).any (·.1) = false) {pl : Sem Bool}
    (he : eval (.Call (.Attribute (.Call (.Name "super" p0) [] [] p1) "__init__" ap) (e :: es) [] pos) X.env = (do
      let ov ← attributeBase (.Call (.Name "super" p0) [] [] p1) "__init__" X.env (eval (.Call (.Name "super" p0) [] [] p1) X.env)
      standAt ap.atName
      let (f, first) ← holding [ov] (getMethod ov "__init__" pl)
      callWith pos f first (backTo pos (starEach (e :: es) X.env)) [])) :
    PSA X (.func body X.env) (.Expr (.Call (.Attribute (.Call (.Name "super" p0) [] [] p1) "__init__" ap) (e :: es) [] pos) pos2) (tSupE X.K D i ta) := ⟨fun pins s σ H Dn I hw => by
  obtain ⟨a, C, hsl, T, ea, hm, hv, hsup, hop, hw⟩ := hw
  refine PySem.ks_wpAt_Expr_any ?_ I.quiet rfl
  refine PySem.ks_wpAt_MethodCall (pl := pl) ?_ he
  obtain ⟨t1, ho⟩ := exo_at I.hok ea
  have J : PySem.W.InstAt s.heap a { cls := .ref C, dict := none, data := .fields #[.ref t1, .none, .none, .none, .bool false, .none] } C none := ⟨ho, rfl, rfl, trivial⟩
  refine super_node S I hN hsl J hm (by decide) fun so h' I2 hso hlt kk => ?_
  obtain ⟨cd, hcd⟩ : ∃ cd, PySem.W.clsIn X.K C = some cd := by
    unfold PySem.W.ks_superIn at hsup
    cases q : PySem.W.clsIn X.K C with
    | none => rw [q] at hsup; cases hsup
    | some cd => exact ⟨cd, rfl⟩
  obtain ⟨hh, g, d, t, os⟩ := s
  have K2 := I2.kIn
  have hxC : a ≠ C := PySem.W.ks_ne I.kIn J hcd
  have hC : PySem.W.Looks (model X.prog X.w) h' (mroOf (.ref C)) cd.mro := fun A Q E s k q => wpAny_bind ((PySem.W.looks_clsIn K2 hcd) A _ E s k (wpAny_pure q))
  have hf : PySem.W.alongIn X.K "__init__" ((cd.mro.dropWhile (· != .ref D)).drop 1) = some (some (.builtin "ValueError.__init__")) := by
    unfold PySem.W.ks_superIn at hsup
    rw [hcd] at hsup
    exact hsup
  have hI : PySem.W.Looks (model X.prog X.w) h' (isInstance (.ref a) (.type "ValueError")) true := (show PySem.W.InstAt h' a _ C none from ⟨kk _ _ ho, rfl, rfl, trivial⟩).type.andThen (PySem.W.looks_subIn K2 hv)
  refine PySem.W.kxs_getMethod PySem.W.kxs_ValueError (ClX.pin_at I2) (PySem.W.looks_opaque K2 hop) hC rfl K2 hf hI hxC (by decide) ?_
  have I3 : Inv X ((h'.objs.size, PySem.W.kxs_mw "ValueError.__init__" a) :: pins) σ H ⟨h'.push (PySem.W.kxs_mw "ValueError.__init__" a), g, d, t + 1, os⟩ :=
    ClX.pin_new (t' := t + 1) (ClX.unpin I2) (fun _ _ z => Heap.get?_push_of_some _ z) (Nat.le_refl _) (Heap.get?_push_size h' rfl) (fun v z => nomatch z)
  have z : wpAny (model X.prog X.w) X.A (spliced (backTo pos (starEach (e :: es) X.env))) (fun vs s₁ => PySem.W.KxsAt "ValueError.__init__" h'.objs.size a s₁.heap ∧ wpAny (model X.prog X.w) X.A (call (.ref h'.objs.size) ([] ++ vs) []) (fun _ => SP X pins Dn .next) X.xe s₁) X.xe
      ⟨h'.push (PySem.W.kxs_mw "ValueError.__init__" a), g, d, t + 1, os⟩ := by
    refine thn (ha.run pos _ _ σ H _ I3 hw) ?_
    rintro us s3 ⟨vs, H1, I4, rv, hl, ea4, qn⟩
    refine ⟨ClX.pin_at I4, ?_⟩
    obtain ⟨nm, q, N, bs, bm, sn, sub, ab, col, dd, k0, k1, k2, k3, k5, hCl, hbm⟩ := T.cls
    obtain ⟨t2, ho4⟩ := exo_at I4.hok ea4
    have hu := ClX.pin_at I4
    obtain ⟨h4, g4, d4, tk4, os4⟩ := s3
    refine call_mw (I4.kIn _ _ hCl) ho4 hu (by rw [List.nil_append, ← Paired.length rv, sizeLine_eq]; omega) fun h5 t5 k5' e5 => ?_
    have J5 := (ClX.unpin I4).write (t' := tk4) (x := a) (e := a) (o := exo a C none) (by rw [ea4]; exact True.intro) (.inl rfl) k5' ⟨_, e5⟩ (exo_ok e5)
    have eu : upd H1 a (exo a C none) = H1 := by
      funext b
      by_cases hb : b = a
      · rw [hb, upd_same, ea4]
      · rw [upd_ne hb]
    rw [eu] at J5
    exact ⟨σ, H1, J5, qn⟩
  rw [hs] at z ⊢
  exact PySem.W.kxs_callWith (i := "ValueError.__init__") (x := a) (by show (false || (backTo pos (starEach es X.env)).any (·.1)) = false; rw [hpl]; rfl) (PySem.Calls.evalArgs_plain z)⟩
end DL
/-! a def that calls super() -/
namespace DL
open PySem L2 PySem.Spec PyProof.Rows

structure FnScopeS (N P : List Str) (sc : Scope) : Prop where
  kind : sc.kind = .function
  co : sc.isCoroutine = false
  gen : sc.isGenerator = false
  nd : N.Nodup
  pre : N.take P.length = P
  par : ∀ x ∈ P, sc.names.lookup x = some .local
  nocell : ∀ y ∈ sc.names, y.2 ≠ .cell
  free : ∀ y ∈ sc.names, y.2 = .free → y.1 = ("__class__" : Str)
  cls : sc.names.lookup ("__class__" : Str) = some .free
  sup : sc.names.lookup ("super" : Str) = some .globalImplicit
def cxS (CX : CXT) (P : Program) (w : World) (K : PySem.W.Frag) (mg : Str → Option Value) (base : Heap) (N : List Str) (qual : Str) (scope : Scope) (f : Addr) (cd : Value) (cc : Addr) (A : Around) (outer : List PySem.Env) (s : Shared) (H : Hp) (E : XK) : Cx where
  prog := P
  w := w
  K := K
  mg := mg
  base := base
  A := A.deeper (PySem.W.ksEnv qual scope s.heap.objs.size f cd cc)
  N := N
  s_0 := s
  H_0 := H
  env := PySem.W.ksEnv qual scope s.heap.objs.size f cd cc
  outer := outer
  stack := PySem.W.ksEnv qual scope s.heap.objs.size f cd cc :: outer
  ex := []
  calm := true
  fn := fun _ => false
  pn := []
  xe := fun e s' => wpAny (model P w) (A.deeper (PySem.W.ksEnv qual scope s.heap.objs.size f cd cc)) (leaving (PySem.W.ksEnv qual scope s.heap.objs.size f cd cc) e) (fun _ s'' => CX outer H s E e s'') (fun e' s'' => CX outer H s E e' s'') s'
/-- a def of the text that closes over its class alone -/
structure FunS (P : Program) (K : PySem.W.Frag) (x qual : Str) (st : Stmt) (f cda cc D : Addr) (fd : FuncData) : Prop where
  ex : ∃ (oc : Value) (od : Option Addr) (kV doc pm : Value) (an : Option Addr) (ct : Value) (osl : Array (Option Value)),
    fd = PySem.W.ksFn x qual (defArgs st) (defBody st) (defScope st) .none kV doc pm an (.ref cda) ct cc ∧ K.lookup f = some ⟨oc, od, .func fd, osl⟩ ∧ PySem.W.codeIn K (.ref cda) qual = true
  kp : PySem.W.keepIn K (.ref f) = true
  code : ∃ (oc : Value) (od : Option Addr) (vs : Array Value) (sl : Array (Option Value)) (file : Str) (tf : Tok), K.lookup cda = some ⟨oc, od, .fields vs, sl⟩ ∧ vs[2]? = some (.str file tf) ∧ ((P.main.file : Str) == file) = true
  top : (P.main.scope.names.lookup ("super" : Str)).isSome = false
  cell : ∃ (oc : Value) (od : Option Addr) (sl : Array (Option Value)), K.lookup cc = some ⟨oc, od, .cell (some (.ref D)), sl⟩
  cls : (PySem.W.clsIn K D).isSome = true
  fst : ∃ ar, ((defArgs st).posonlyargs ++ (defArgs st).args).head? = some ar
theorem zip_look {ps : List Str} {us : List Value} {i : Nat} {y : Str} {u : Value} (nd : ps.Nodup) (hp : ps[i]? = some y) (hu : us[i]? = some u) : (ps.zip us).reverse.lookup y = some u := by
  have hm : (y, u) ∈ ps.zip us := by
    have : (ps.zip us)[i]? = some (y, u) := by rw [List.getElem?_zip_eq_some]; exact ⟨hp, hu⟩
    exact List.mem_of_getElem? this
  have hk : ((ps.zip us).map (·.1)).Nodup := by
    have : ∀ (ps : List Str) (us : List Value), ((ps.zip us).map (·.1)).Sublist ps := by
      intro ps
      induction ps with
      | nil => intro us; simp
      | cons p ps ih =>
        intro us
        cases us with
        | nil => simp
        | cons u us => simp only [List.zip_cons_cons, List.map_cons]; exact (ih us).cons₂ _
    exact nd.sublist (this ps us)
  have key : ∀ l : List (Str × Value), (l.map (·.1)).Nodup → (y, u) ∈ l → l.lookup y = some u := by
    intro l
    induction l with
    | nil => intro _ h; cases h
    | cons p l ih =>
      intro h1 h2
      obtain ⟨a, b⟩ := p
      rw [List.map_cons, List.nodup_cons] at h1
      rcases List.mem_cons.mp h2 with e | h2
      · cases e; simp [List.lookup]
      · have : y ≠ a := fun z => h1.1 (List.mem_map.mpr ⟨(y, u), h2, z⟩)
        have hb : (y == a) = false := by simpa using this
        simp only [List.lookup, hb]
        exact ih h1.2 h2
  refine key _ ?_ (by simpa using hm)
  rw [List.map_reverse]
  unfold List.Nodup at hk ⊢
  rw [List.pairwise_reverse]
  exact hk.imp fun h => Ne.symm h
theorem inv_startS {CX : CXT} {P : Program} {w : World} {K : PySem.W.Frag} {mg : Str → Option Value} {base : Heap} {N ps : List Str} {qual : Str} {scope : Scope} {f : Addr} {cd : Value} {cc : Addr} {D : Value} {A : Around} {outer : List PySem.Env} {s : Shared} {H : Hp} {E : XK} {us : List Value} {vs : List V} {h₁ : Heap} {tk : Nat}
    (S : FnScopeS N ps scope) (hd : A.handled = none) (e0 : Env0 P w K mg base A outer s H) (hl : vs.length = ps.length) (r : Vals vs us) (hcc : ∃ (oc : Value) (od : Option Addr) (sl : Array (Option Value)), K.lookup cc = some ⟨oc, od, .cell (some D), sl⟩)
    (hns : h₁.Ns s.heap.objs.size (fun x => (ps.zip us).reverse.lookup x)) (kp : ∀ b o, s.heap.get? b = some o → h₁.get? b = some o) :
    Inv (cxS CX P w K mg base N qual scope f cd cc A outer s H E) [] (L2.start N vs) H { s with heap := h₁, toks := tk } := by
  have hpl : ps.length ≤ N.length := by have := congrArg List.length S.pre; rw [List.length_take] at this; omega
  have noA : ∀ b : Addr, b ∉ (cxS CX P w K mg base N qual scope f cd cc A outer s H E).ex := fun b z => absurd (show b ∈ ([] : List Addr) from z) (by simp)
  have cl : ∀ {y c}, (cxS CX P w K mg base N qual scope f cd cc A outer s H E).env.cells.lookup y = some c → y = ("__class__" : Str) ∧ c = cc := fun {y c} e => by
    have e : List.lookup y [(("__class__" : Str), cc)] = some c := e
    by_cases hy : y = ("__class__" : Str)
    · subst hy
      simp [List.lookup] at e
      exact ⟨rfl, e.symm⟩
    · have hb : (y == ("__class__" : Str)) = false := by simpa using hy
      simp [List.lookup, hb] at e
  obtain ⟨oc3, od3, sl3, lcell⟩ := hcc
  have bcell : base.get? cc = some ⟨oc3, od3, .cell (some D), sl3⟩ := e0.mod.kin _ _ lcell
  refine ⟨⟨e0.mod, S.kind, rfl, rfl, Nat.le_refl _, fun y z c h1 h2 => ?_, fun y hy => ?_, fun y c z _ => ?_, fun _ => hd, Around.frames_deeper e0.frames, .inr ⟨rfl, rfl⟩, fun b z => absurd z (noA b), e0.bs, e0.bsz, fun b _ _ => noA b, fun b z => absurd z (noA b), e0.funs, e0.frf⟩,
    rfl, e0.bare, Un.kept kp, ⟨_, hns, fun i y v h1 h2 h3 => ?_⟩, fun y c h => ?_, e0.hok.fresh (Nat.le_refl _), fun y c h => ?_, fun p hp => absurd (show p ∈ ([] : List (Addr × Obj)) from hp) (by simp), e0.hok.kept kp, ?_⟩
  · rw [(cl h1).1, (cl h2).1]
  · have hy : scope.names.lookup y = some .cell ∨ scope.names.lookup y = some .free := hy
    rcases hy with hy | hy
    · exact absurd rfl (S.nocell _ (PySem.mem_of_lookup hy))
    · have := S.free _ (PySem.mem_of_lookup hy) rfl
      have : y = ("__class__" : Str) := this
      subst this
      exact ⟨cc, rfl⟩
  · have z : false = true := z
    cases z
  · have hi : i < vs.length := by
      unfold L2.start at h2
      by_cases hi : i < vs.length
      · exact hi
      · rw [List.getElem?_append_right (by simpa using hi)] at h2
        rw [List.getElem?_replicate] at h2
        split at h2 <;> cases h2
    have ha : vs[i]? = some v := by
      unfold L2.start at h2
      rw [List.getElem?_append_left (by simpa using hi), List.getElem?_map] at h2
      cases e : vs[i]? with
      | none => rw [e] at h2; cases h2
      | some a => rw [e] at h2; cases h2; rfl
    obtain ⟨u, hu, rv⟩ := r.get ha
    have hp : ps[i]? = some y := by
      rw [← S.pre, List.getElem?_take_of_lt (by omega)]; exact h1
    have ndP : ps.Nodup := by rw [← S.pre]; exact S.nd.sublist (List.take_sublist _ _)
    exact ⟨u, rv, .inl ⟨S.par y (List.mem_of_getElem? hp), zip_look ndP hp hu⟩⟩
  · obtain ⟨rfl, rfl⟩ := cl h
    exact ⟨_, _, kp _ _ (e0.bs _ _ bcell).1, rfl⟩
  · obtain ⟨rfl, rfl⟩ := cl h
    exact (e0.bs _ _ bcell).2
  · unfold L2.start
    show _ = N.length
    rw [List.length_append, List.length_map, List.length_replicate]
    omega
section
variable {P : Program} {w : World} {K : PySem.W.Frag} {mg : Str → Option Value} {base : Heap} {CX : CXT} {x qual : Str} {st : Stmt} {f cda cc D : Addr} {fd : FuncData} {N ps : List Str} {k : Nat} {sp : Sp}
theorem FunS.okG (F : FunS P K x qual st f cda cc D fd) (S : FnScopeS N ps (defScope st)) (len : ∀ vs H Q E, sp vs H Q E → vs.length = ps.length)
    (body : ∀ (A : Around) (outer : List PySem.Env) (s : Shared) (H : Hp) (vs : List V) (Q : VK) (E : XK), Room k (A.deeper (PySem.W.ksEnv qual (defScope st) s.heap.objs.size f (.ref cda) cc)) → A.guards = some [] → sp vs H Q E →
      ∃ t, PSsA (cxS CX P w K mg base N qual (defScope st) f (.ref cda) cc A outer s H E) (.func (defBody st) (PySem.W.ksEnv qual (defScope st) s.heap.objs.size f (.ref cda) cc)) (defBody st) t ∧ t { nx := fun _ H' => Q .non H', rt := Q } (L2.start N vs) H) :
    FnG P w K mg base CX (k + 1) f fd ps sp := by
  obtain ⟨oc, od, kV, doc, pm, an, ct, osl, rfl, lk, hcd⟩ := F.ex
  refine ⟨len, ?_⟩
  intro A outer s H args us vs Q E room gd e0 hb rv want
  have many := len _ _ _ _ want
  have stays : ∀ b o, base.get? b = some o → s.heap.get? b = some o := fun b o e => (e0.bs b o e).1
  have KX := e0.mod.kin.keeps stays
  have lim := e0.mod.nolimit.keeps stays
  refine PySem.ks_codeAny_call_defAt (fd := PySem.W.ksFn x qual (defArgs st) (defBody st) (defScope st) .none kV doc pm an (.ref cda) ct cc) (body := defBody st) (binds := ps.zip us) room.depth (KX _ _ lk) rfl lim (PySem.W.codeRec_of KX hcd) rfl hb S.nocell (fun y hy => ?_) (fun h₁ hns kp => ?_) S.co S.gen S.kind
  · obtain ⟨n, v⟩ := y
    exact S.par n (List.of_mem_zip hy).1
  · obtain ⟨t, ht, hq⟩ := body A outer s H vs Q E (room.deeper _) gd want
    have I := inv_startS (CX := CX) (E := E) (qual := qual) (f := f) (cd := .ref cda) (tk := s.toks + (ps.zip us).length) S room.hd e0 many rv F.cell hns kp
    refine PySem.ks_wpAt_mono (ht.run [] _ (L2.start N vs) H _ I hq) (fun fl s' hs => ?_) fun e s' hs => hs
    cases fl with
    | ret u =>
      obtain ⟨v, σ', H', J, r', q⟩ := hs
      exact ⟨v, H', J.os, J.bare, J.base, J.hok, r', q⟩
    | next =>
      obtain ⟨σ', H', J, q⟩ := hs
      exact ⟨V.non, H', J.os, J.bare, J.base, J.hok, rfl, q⟩
    | brk => obtain ⟨_, _, _, q⟩ := hs; exact q.elim
    | cont => obtain ⟨_, _, _, q⟩ := hs; exact q.elim
end
end DL
/-! errors: their __init__, their making, raise -/
namespace DL
open PySem L2 PySem.Spec PyProof.Rows

theorem meth_evalB {o : Expr} {m : Str} {ap pos : Pos} {es : List Expr} {env : PySem.Env} (hp : es.all plainE = true) (hn : es.length < 30) (hl : (ap.endLine == pos.line) = true) :
    ∃ pl, eval (.Call (.Attribute o m ap) es [] pos) env = (do
      let ov ← attributeBase o m env (eval o env)
      standAt ap.atName
      let (f, first) ← holding [ov] (getMethod ov m pl)
      callWith pos f first (backTo pos (starEach es env)) []) := by
  refine ⟨(do return (← importBound o env).getD true), ?_⟩
  have few : methodCallForm (es.length + ([] : List Keyword).length) (backTo pos (starEach es env)) (backToKw pos (keywordEach [] env)) = true := by
    have a := plains_pl (env := env) (pos := pos) hp
    have b : (backTo pos (starEach es env)).all (fun x => !x.1) = true := by
      rw [List.all_eq_true]
      intro x hx
      rw [List.any_eq_false] at a
      simpa using a x hx
    show ((backTo pos (starEach es env)).all (fun x => !x.1) && true && decide (es.length + 0 + 0 < 30)) = true
    rw [b, Bool.true_and, Bool.true_and]
    exact decide_eq_true (by omega)
  show (attributeBase o m env (eval o env) >>= fun ov => standAt ap.atName >>= fun _ => methodCall o m ap pos env ov (es.length + ([] : List Keyword).length) (backTo pos (starEach es env)) (backToKw pos (keywordEach [] env))) = _
  unfold methodCall calleeOf methodCallPos
  rw [few, hl]
  rfl

/-- the def of its __init__: super().__init__("..") -/
def isSup : Stmt → Bool
  | .Expr (.Call (.Attribute (.Call (.Name x _) [] [] _) m ap) [.Constant (.str _) _ _] [] pos) _ => decide (x = ("super" : Str)) && decide (m = ("__init__" : Str)) && (ap.endLine == pos.line)
  | _ => false
/-- self.f = f -/
def isFldSt (self f g : Str) : Stmt → Bool
  | .Assign [.Attribute (.Name x _) m _] (.Name y _) _ => decide (x = self) && decide (m = f) && decide (y = g)
  | _ => false
section
variable {P : Program} {w : World} {K : PySem.W.Frag} {mg : Str → Option Value} {base : Heap} {x qual : Str} {st : Stmt} {f cda cc D : Addr} {fd : FuncData} {N ps : List Str} {k : Nat}
theorem supF_of {CX : CXT} (F : FunS P K x qual st f cda cc D fd) (S : FnScopeS N ps (defScope st)) (hm : mg "super" = none) {fst : Str} (hf : ps[0]? = some fst) (hfst : ∃ ar : Arg, ((defArgs st).posonlyargs ++ (defArgs st).args).head? = some ar ∧ ar.arg = fst) {A : Around} {outer : List PySem.Env} {s : Shared} {H : Hp} {E : XK} :
    SupF (cxS CX P w K mg base N qual (defScope st) f (.ref cda) cc A outer s H E) f cda cc D qual fst := by
  obtain ⟨oc, od, kV, doc, pm, an, ct, osl, e, lk, hcd⟩ := F.ex
  obtain ⟨ar, h1, h2⟩ := hfst
  subst e
  exact ⟨⟨_, rfl⟩, ⟨oc, od, _, osl, ar, lk, h1, h2⟩, F.code, F.top, F.cell, F.cls, hm, S.sup, S.cls, S.par _ (List.mem_of_getElem? hf), S.kind⟩
theorem sup_at {X : Cx} {st : Stmt} (h : isSup st = true) (S : SupF X f cda cc D x "self") (hN : X.N[0]? = some ("self" : Str)) (body : List Stmt) : PSA X (.func body X.env) st (tSupE X.K D 0 (fun _ H Q => ∃ v, Q [v] H)) := by
  unfold isSup at h
  split at h
  · rename_i y p0 p1 m ap z j p3 pos p2
    simp only [Bool.and_eq_true, decide_eq_true_eq] at h
    obtain ⟨⟨rfl, rfl⟩, hl⟩ := h
    obtain ⟨pl, he⟩ := meth_evalB (o := .Call (.Name "super" p0) [] [] p1) (m := "__init__") (ap := ap) (pos := pos) (es := [.Constant (.str z) j p3]) (env := X.env) rfl (by show 1 < 30; decide) hl
    refine (psa_supE (e := .Constant (.str z) j p3) (es := []) S hN (pa_cons (pe_str (X := X)) pa_nil) rfl rfl he).imp fun Dn σ H q => ?_
    obtain ⟨a, C, h1, h2, h3, h4, h5, h6, h7, v, h8⟩ := q
    exact ⟨a, C, h1, h2, h3, h4, h5, h6, h7, by
      refine ⟨?_, h8.2.1, h8.2.2⟩
      show 1 ≤ 1000
      decide⟩
  · cases h
theorem xinit0 (F : FunS P K x qual st f cda cc D fd) (S : FnScopeS ["self"] ["self"] (defScope st)) (hm : mg "super" = none) (hfst : ∃ ar : Arg, ((defArgs st).posonlyargs ++ (defArgs st).args).head? = some ar ∧ ar.arg = ("self" : Str)) {s1 : Stmt} (hb : defBody st = [s1]) (h1 : isSup s1 = true) :
    FnG P w K mg base (L2.CX P w) (k + 1) f fd ["self"] (spX0 K D) := by
  refine F.okG S (fun vs H Q E h => ?_) (fun A outer s H vs Q E hr gd h => ?_)
  · obtain ⟨a, rfl, _⟩ := h; rfl
  · obtain ⟨a, rfl, xc, ea, q⟩ := h
    rw [hb]
    refine ⟨_, psa_cons (sup_at h1 (supF_of F S hm rfl hfst) rfl _) (PSs.at pss_nil), a, D, rfl, xc.T, ea, xc.me, xc.ve, xc.su, xc.op, .non, ?_, ea, q⟩
    show 1 ≤ 1000
    decide
theorem xinit1 {fl : Str} (F : FunS P K x qual st f cda cc D fd) (S : FnScopeS ["self", fl] ["self", fl] (defScope st)) (hm : mg "super" = none) (hfst : ∃ ar : Arg, ((defArgs st).posonlyargs ++ (defArgs st).args).head? = some ar ∧ ar.arg = ("self" : Str)) {s1 s2 : Stmt} (hb : defBody st = [s1, s2]) (h1 : isSup s1 = true)
    (h2 : isFldSt "self" fl fl s2 = true) (hod : oddName fl = false) : FnG P w K mg base (L2.CX P w) (k + 1) f fd ["self", fl] (spX1 K D fl) := by
  refine F.okG S (fun vs H Q E h => ?_) (fun A outer s H vs Q E hr gd h => ?_)
  · obtain ⟨a, v, rfl, _⟩ := h; rfl
  · obtain ⟨a, v, rfl, xc, hno, ea, q⟩ := h
    rw [hb]
    unfold isFldSt at h2
    split at h2
    · rename_i y py m pm z pz p3
      simp only [Bool.and_eq_true, decide_eq_true_eq] at h2
      obtain ⟨⟨rfl, rfl⟩, rfl⟩ := h2
      unfold oddName at hod
      rw [Bool.or_eq_false_iff] at hod
      refine ⟨_, psa_cons (sup_at h1 (supF_of F S hm rfl hfst) rfl _) (PSs.at (pss_one (ps_ost (pe_var (i := 0) rfl (.inl (S.par "self" (by simp)))) (pe_var (i := 1) rfl (.inl (S.par z (by simp))) hod.1 hod.2)))), a, D, rfl, xc.T, ea, xc.me, xc.ve, xc.su, xc.op, .non, ?_, ea, ?_⟩
      · show 1 ≤ 1000
        decide
      · exact ⟨v, rfl, .ref a, rfl, a, D, rfl, xc.T, hno, .inl ⟨ea, fun dx hd hne => q dx hd hne⟩⟩
    · cases h2
end
end DL
/-! raise of an error of the text's own -/
namespace DL
open PySem L2 PySem.Spec PyProof.Rows

/-- the end of C(..), no dict made -/
theorem mk_endN {X : Cx} {pins : List (Addr × Obj)} {σ : L2.St} {H1 : Hp} {Q : XK} {hp hp2 h2 : Heap} {g1 g2 : Array GenState} {d1 d2 : Drawn} {t1 t2 : Nat} {os1 os2 : OsState} {a C : Addr} (T : Raises X (.ref C)) (I1 : Inv X pins σ H1 ⟨hp, g1, d1, t1, os1⟩)
    (ha : hp.objs.size ≤ a) (k : ∀ b o, hp.get? b = some o → hp2.get? b = some o) (un : Un (frs X.stack) [] (upd H1 a (exo a C none)) (upd H1 a (exo a C none)) hp2 h2) (hok : HOk X.prog X.w (upd H1 a (exo a C none)) h2) (ho : os2 = os1) (hb : AllBare g2)
    (q : Q (.ref C) none H1) : MkP X pins σ Q (.ref a) ⟨h2, g2, d2, t2, os2⟩ := by
  obtain ⟨t0, hoe⟩ := exo_at hok upd_same
  have hn : H1 a = none := I1.hok.fresh ha
  obtain ⟨G, g1', g2'⟩ := restrict h2 fun b => decide (b ≠ a)
  have gk : ∀ b, b ≠ a → G.get? b = h2.get? b := fun b hb => g1' b (decide_eq_true hb)
  have ge : G.get? a = none := g2' a (by simp)
  have nha : ∀ {b : Addr} {o : Obj}, hp.get? b = some o → b ≠ a := fun {b o} z => Nat.ne_of_lt (Nat.lt_of_lt_of_le (Heap.lt_size z) ha)
  have up : ∀ {b : Addr}, b ≠ a → H1 b = none → upd H1 a (exo a C none) b = none := fun {b} hb n => by rw [upd_ne hb]; exact n
  have U : Un (frs X.stack) [] H1 H1 hp G := {
    keep := fun b o z n hf hx => by
      rw [gk b (nha z)]
      exact un.keep b o (k b o z) (up (nha z) n) hf hx
    slot := fun b o z n hf hx => by
      rw [gk b (nha z)]
      exact un.slot b o (k b o z) (up (nha z) n) hf hx
    free := fun b o z n hx => n
    there := fun b o z hx => by
      rw [gk b (nha z)]
      exact un.there b o (k b o z) hx
    tups := fun b xs z => z
    frzs := fun b o v z => z
    tbls := fun b ps z => ⟨#[], by rw [z]; simp⟩ }
  have hok3 : HOk X.prog X.w H1 G := fun b o z => by
    have hba : b ≠ a := ne_of_none z hn
    have noa : ∀ {c : Addr} {u : HO}, H1 c = some u → c ≠ a := fun {c u} hc => ne_of_none hc hn
    have x := hok b o (by rw [upd_ne hba]; exact z)
    exact x.stay (fun c v hc y => by
          have hca : c ≠ a := by
            rcases hc with hc | hc
            · rw [hc]; exact hba
            · intro e
              subst e
              rw [upd_same] at hc
              exact exo_own (Option.some.inj hc)
          rw [gk c hca]
          exact y)
        (fun c hc => by
          have hca : c ≠ a := fun e => by
            subst e
            rw [upd_same] at hc
            exact exo_own (Option.some.inj hc)
          rw [upd_ne hca] at hc; exact hc)
        (fun c xs hc => by
          have hca : c ≠ a := fun e => by
            subst e
            rw [upd_same] at hc
            exact exo_tup (Option.some.inj hc)
          rw [upd_ne hca] at hc; exact hc)
  have J : Inv X pins σ H1 ⟨G, g2, d2, t2, os2⟩ := I1.call' (ch := []) ho U hok3 hb (fun b z => absurd z (by simp))
  exact ⟨a, _, _, ⟨G, g2, d2, t2, os2⟩, _, .ref C, none, rfl, J, fun b o z => by
    by_cases hba : b = a
    · rw [hba, ge] at z; cases z
    · exact (gk b hba).symm.trans z, ge, hoe, ⟨rfl, rfl⟩, rfl, rfl, hn, rfl, hb, T, q⟩

/-- what an error gives: its dict or none -/
def tMkX (C : Addr) (fo : Option Str) (t : TA) : L2.St → Hp → XK → Prop := fun σ H Q => t σ H fun vs H1 => match fo, vs with
  | none, [] => Q (.ref C) none H1
  | some f, [v] => ∀ d, H1 d = none → Q (.ref C) (some d) (upd H1 d (.xd [(f, v)]))
  | _, _ => False
section
variable {X : Cx} {C fI : Addr} {k : Nat} {fd : FuncData} {fo : Option Str} {pins : List (Addr × Obj)} {σ : L2.St} {H1 : Hp} {s1 : Shared} {Q : XK}
theorem run_mkx (M : XMk X.prog X.w X.K X.mg X.base k C fI fd fo) (hr : Room (k + 1) X.A) (gd : X.A.guards = some []) {us : List Value} {vs : List V} (I1 : Inv X pins σ H1 s1) (r1 : Vals vs us)
    (h : match fo, vs with | none, [] => Q (.ref C) none H1 | some f, [v] => ∀ d, H1 d = none → Q (.ref C) (some d) (upd H1 d (.xd [(f, v)])) | _, _ => False) :
    wpAny (model X.prog X.w) X.A (call (.ref C) us) (MkP X pins σ Q) X.xe s1 := by
  have T := M.xc.T
  obtain ⟨nm, q, N, bs, bm, sn, sub, ab, col, dd, k0, k1, k2, k3, k5, hC, hbm⟩ := T.cls
  obtain ⟨hp, g, dr, tk, os⟩ := s1
  have hsz : hp.objs.size ≤ hp.objs.size + 1 := Nat.le_succ _
  have hn : H1 (hp.objs.size + 1) = none := I1.hok.fresh hsz
  have kk : ∀ b o, hp.get? b = some o → ((hp.push (PySem.W.kdv_tup us)).push (PySem.HandSPX.excO C hp.objs.size)).get? b = some o := fun b o e => Heap.get?_push_of_some _ (Heap.get?_push_of_some _ e)
  have hget : ((hp.push (PySem.W.kdv_tup us)).push (PySem.HandSPX.excO C hp.objs.size)).get? (hp.objs.size + 1) = some (PySem.HandSPX.excO C hp.objs.size) := by heap_get
  have I2 : Inv X pins σ (upd H1 (hp.objs.size + 1) (exo (hp.objs.size + 1) C none)) ⟨(hp.push (PySem.W.kdv_tup us)).push (PySem.HandSPX.excO C hp.objs.size), g, dr, tk, os⟩ :=
    I1.laid (t' := tk) (a := hp.objs.size + 1) (o := exo (hp.objs.size + 1) C none) (h' := (hp.push (PySem.W.kdv_tup us)).push (PySem.HandSPX.excO C hp.objs.size)) kk hsz (exo_ok hget)
  have r2 : Vals (V.ref (hp.objs.size + 1) :: vs) (Value.ref (hp.objs.size + 1) :: us) := .cons rfl r1
  have hlen : us.length ≤ 1 := by
    have e := r1.length
    cases fo with
    | none =>
      cases vs with
      | nil => rw [← e]; exact Nat.zero_le _
      | cons v vs => exact h.elim
    | some f =>
      cases vs with
      | nil => exact h.elim
      | cons v vs =>
        cases vs with
        | nil => rw [← e]; exact Nat.le_refl _
        | cons _ _ => exact h.elim
  have hus : us.length ≤ sizeLine := by rw [sizeLine_eq]; omega
  have go : ∀ {ps : List Str} {sp : Sp} {R : Hp → Prop}, FnG X.prog X.w X.K X.mg X.base (L2.CX X.prog X.w) k fI fd ps sp → Binds X.K fd ps [] → sp (V.ref (hp.objs.size + 1) :: vs) (upd H1 (hp.objs.size + 1) (exo (hp.objs.size + 1) C none)) (fun v H2 => v = .non ∧ R H2) (fun _ _ _ => False) →
      (∀ (h2 : Heap) (g2 : Array GenState) (d2 : Drawn) (t2 : Nat) (os2 : OsState) (H2 : Hp), Un (frs X.stack) [] (upd H1 (hp.objs.size + 1) (exo (hp.objs.size + 1) C none)) H2 ((hp.push (PySem.W.kdv_tup us)).push (PySem.HandSPX.excO C hp.objs.size)) h2 → HOk X.prog X.w H2 h2 → os2 = os → AllBare g2 → R H2 → MkP X pins σ Q (.ref (hp.objs.size + 1)) ⟨h2, g2, d2, t2, os2⟩) →
      wpAny (model X.prog X.w) X.A (call (.ref C) us) (MkP X pins σ Q) X.xe ⟨hp, g, dr, tk, os⟩ := fun {ps sp R} F1 hb hq fin => by
    have hl : (Value.ref (hp.objs.size + 1) :: us).length = ps.length := by rw [← r2.length]; exact F1.len _ _ _ _ hq
    have bd := hb ⟨(hp.push (PySem.W.kdv_tup us)).push (PySem.HandSPX.excO C hp.objs.size), g, dr, tk, os⟩ (Value.ref (hp.objs.size + 1) :: us) I2.kIn (by rw [List.append_nil]; exact hl)
    rw [List.append_nil] at bd
    refine wpAny_call (PySem.HandSPX.call_own F.excBase_ValueError (fun Y => PySem.HandSPX.refsVE_contains Y bm hbm) (I1.kIn _ _ hC) (PySem.W.looks_findIn I1.kIn M.iC) (fun self => PySem.W.bind_fn I1.kIn self M.tI) hus
      (codeAny_mono (F1.run _ X.stack _ _ ⟨Value.ref (hp.objs.size + 1) :: us, []⟩ (Value.ref (hp.objs.size + 1) :: us) _ _ (fun _ _ _ => False) (hr.make C us []) gd (I2.env0.make C us []) bd r2 hq) fun r s' hq' => ?_))
    cases r with
    | error er => exact (cx_no hq').elim
    | ok fl =>
      cases fl with
      | ret u =>
        obtain ⟨v, H2, os2, bare2, un2, hok2, rv, ev, q2⟩ := hq'
        subst ev
        obtain ⟨h2, g2, d2, t2, os'⟩ := s'
        exact ⟨rv, fin h2 g2 d2 t2 os' H2 un2 hok2 os2 bare2 q2⟩
      | next => exact False.elim hq'
      | brk => exact False.elim hq'
      | cont => exact False.elim hq'
  cases fo with
  | none =>
    cases vs with
    | cons v vs => exact h.elim
    | nil =>
      obtain ⟨F1, hb⟩ := M.f0 rfl
      exact go (R := fun H2 => H2 = upd H1 (hp.objs.size + 1) (exo (hp.objs.size + 1) C none)) F1 hb ⟨_, rfl, M.xc, upd_same, rfl, rfl⟩ fun h2 g2 d2 t2 os2 H2 un2 hok2 e2 b2 eq => by
        subst eq
        exact mk_endN (raises_own T.exC T.tyC) I1 hsz kk un2 hok2 e2 b2 h
  | some f =>
    cases vs with
    | nil => exact h.elim
    | cons v vs =>
      cases vs with
      | cons _ _ => exact h.elim
      | nil =>
        obtain ⟨hno, F1, hb, _⟩ := M.f1 f rfl
        exact go (R := fun H2 => ∃ d, H1 d = none ∧ d ≠ hp.objs.size + 1 ∧ H2 = upd (upd (upd H1 (hp.objs.size + 1) (exo (hp.objs.size + 1) C none)) d (exd d [(f, v)])) (hp.objs.size + 1) (exo (hp.objs.size + 1) C (some d))) F1 hb
          ⟨_, v, rfl, M.xc, hno, upd_same, fun dx hd hne => ⟨rfl, dx, by rw [upd_ne hne] at hd; exact hd, hne, rfl⟩⟩ fun h2 g2 d2 t2 os2 H2 un2 hok2 e2 b2 ⟨d, hd, hne, eq⟩ => by
            subst eq
            refine mk_end (raises_own T.exC T.tyC) I1 hsz kk un2 hok2 e2 b2 upd_same (by rw [upd_ne hne, upd_same]) hd ?_
            have e : upd (del (upd (upd (upd H1 (hp.objs.size + 1) (exo (hp.objs.size + 1) C none)) d (exd d [(f, v)])) (hp.objs.size + 1) (exo (hp.objs.size + 1) C (some d))) (hp.objs.size + 1)) d (.xd [(f, v)]) = upd H1 d (.xd [(f, v)]) := by
              funext b
              by_cases h1 : b = d
              · subst h1; rw [upd_same, upd_same]
              · rw [upd_ne h1, upd_ne h1]
                by_cases h2 : b = hp.objs.size + 1
                · subst h2; rw [del_same, hn]
                · rw [del_ne h2, upd_ne h2, upd_ne h1, upd_ne h2]
            rw [e]
            exact h d hd
theorem pmk_x {x : Str} {p pos : Pos} {e : Expr} {es : List Expr} {t : TA} (M : XMk X.prog X.w X.K X.mg X.base k C fI fd fo) (hr : Room (k + 1) X.A) (gd : X.A.guards = some []) (hg : Gl X x) (hm : X.mg x = some (.ref C)) (ha : PA X (e :: es) t) (hdb : (x == ("__debug__" : Str)) = false)
    (hs : starEach (e :: es) X.env = (false, eval e X.env) :: starEach es X.env) (hpl : (backTo pos (starEach es X.env)).any (·.1) = false) : PMk X (.Call (.Name x p) (e :: es) [] pos) (tMkX C fo t) := by
  intro pins s σ H Q I h
  refine wpAny_Call_Name_kw (ld_glob I hg hm ?_ hdb)
  exact PySem.W.callWith_K (h₀ := X.base) I.ok.mod.kin M.xc.T.kC (thn (ha.run pos pins s σ H _ I h) fun us s1 ⟨vs, H1, I1, r1, q1⟩ => ⟨I1.kIn, run_mkx M hr gd I1 r1 q1⟩) hs hpl
theorem pmk_x0 {x : Str} {p pos : Pos} (M : XMk X.prog X.w X.K X.mg X.base k C fI fd fo) (hr : Room (k + 1) X.A) (gd : X.A.guards = some []) (hg : Gl X x) (hm : X.mg x = some (.ref C)) (hdb : (x == ("__debug__" : Str)) = false) : PMk X (.Call (.Name x p) [] [] pos) (tMkX C fo tNil) := by
  intro pins s σ H Q I h
  refine wpAny_Call_Name_kw (ld_glob I hg hm ?_ hdb)
  exact PySem.W.callWith_K0 I.kIn M.xc.T.kC (run_mkx (us := []) M hr gd I .nil h)
end
end DL
/-! own things handed to a def that may change them; super().__init__ of own classes -/
namespace DL
open PySem L2 PySem.Spec PyProof.Rows

/-- super().__init__(..), the next class's def found while the text runs -/
def tSupF (X : Cx) (D : Addr) (E : L2.St → XK) (i : Nat) (ta : TA) : TS := fun Dn σ H => ∃ (a C dx : Addr) (gs : List (Str × V)) (f2 : Addr) (sp : Sp) (k : Nat) (fd : FuncData) (ps : List Str), σ[i]? = some (some (.ref a)) ∧ H a = some (.ins C dx gs) ∧ PySem.W.mroIn X.K C (.ref D) = some true ∧
  PySem.W.ks_superIn X.K C D "__init__" = some (some (.ref f2)) ∧ PySem.W.typeIn X.K (.ref f2) = some (.type "function") ∧ PySem.W.fnIn X.K f2 = true ∧ PySem.W.nsIn X.K cStatics "thirdparty.any" = some none ∧
  FnG X.prog X.w X.K X.mg X.base (L2.CX X.prog X.w) k f2 fd ps sp ∧ Room k X.A ∧ Binds X.K fd ps [] ∧ ta σ H fun vs H1 => sp (.ref a :: vs) H1 (fun _ H2 => Dn.nx σ H2) (E σ)
theorem run_met {X : Cx} {k : Nat} {q f a : Addr} {fd : FuncData} {ps : List Str} {sp : Sp} {E : XK} {Q : VK} {us : List Value} {vs : List V} {pins : List (Addr × Obj)} {σ : L2.St} {H : Hp} {s : Shared} (F : FnG X.prog X.w X.K X.mg X.base (L2.CX X.prog X.w) k f fd ps sp) (hr : Room k X.A) (gd : X.A.guards = some []) (hb : Binds X.K fd ps [])
    (hx : PassesAt (L2.CX X.prog X.w) X σ E) (I : Inv X ((q, PySem.W.methodObj (.ref f) (.ref a)) :: pins) σ H s) (r : Vals vs us) (h : sp (.ref a :: vs) H Q E) : wpAny (model X.prog X.w) X.A (call (.ref q) us) (EP X pins σ Q) X.xe s := by
  have r2 : Vals (V.ref a :: vs) (Value.ref a :: us) := .cons rfl r
  have hl : (Value.ref a :: us).length = ps.length := by rw [← r2.length]; exact F.len _ _ _ _ h
  have bd := hb s (Value.ref a :: us) I.kIn (by rw [List.append_nil]; exact hl)
  rw [List.append_nil] at bd
  have z : wpAny (model X.prog X.w) X.A (call (.ref q) us) (EP X ((q, PySem.W.methodObj (.ref f) (.ref a)) :: pins) σ Q) X.xe s := by
    refine wpAny_call (PySem.W.method_call (ClX.pin_at I) (codeAny_mono (F.run X.A X.stack s H ⟨Value.ref a :: us, []⟩ (Value.ref a :: us) _ Q E hr gd I.env0 bd r2 h) ?_))
    intro r s' hq
    rcases r with e | fl
    · exact hx _ H s e s' I hq
    · cases fl with
      | ret u => exact I.after hq
      | next => exact hq.elim
      | brk => exact hq.elim
      | cont => exact hq.elim
  exact thn z fun _ _ y => ClX.unpinE y
theorem callwith_met {X : Cx} {f a : Addr} {pins : List (Addr × Obj)} {σ : L2.St} {H : Hp} {s : Shared} {pos : Pos} {e : Expr} {es : List Expr} {q : Addr} {Q : Value → Shared → Prop} {E : Value → Shared → Prop} {A : Around} (I : Inv X ((q, PySem.W.methodObj (.ref f) (.ref a)) :: pins) σ H s) (hb : X.base.get? q = none) (hf : PySem.W.fnIn X.K f = true)
    (h : wpAny (model X.prog X.w) A (spliced (backTo pos (starEach (e :: es) X.env))) (fun vs s₁ => PySem.W.MethP X.K q f (.ref a) s₁.heap ∧ wpAny (model X.prog X.w) A (call (.ref q) vs) Q E s₁) E s)
    (he : (e :: es).all plainE = true) :
    wpAny (model X.prog X.w) A (callWith pos (.ref q) [] (backTo pos (starEach (e :: es) X.env)) []) Q E s := by
  have hq := ClX.pin_at I
  have hL : q ≠ X.env.locals := (I.pin (q, PySem.W.methodObj (.ref f) (.ref a)) (List.mem_append_right _ List.mem_cons_self)).2.2.1
  rw [List.all_cons, Bool.and_eq_true] at he
  exact PySem.W.callWith_M (K := X.K) (h₀ := X.base) (first := []) I.ok.mod.kin (news_at hL hb hq) List.mem_cons_self hf h (plain_star he.1) (plains_pl he.2)
theorem psa_supF {X : Cx} {f cda cc D : Addr} {q fst : Str} (S : SupF X f cda cc D q fst) {i : Nat} (hN : X.N[i]? = some fst) {body : List Stmt} {p0 p1 ap pos pos2 : Pos} {e : Expr} {es : List Expr} {ta : TA} {E : L2.St → XK} (gd : X.A.guards = some []) (hx : ∀ σ, PassesAt (L2.CX X.prog X.w) X σ (E σ)) (ha : PA X (e :: es) ta)
    (hp : (e :: es).all plainE = true) (hn : (e :: es).length < 30) (hl : (ap.endLine == pos.line) = true) :
    PSA X (.func body X.env) (.Expr (.Call (.Attribute (.Call (.Name "super" p0) [] [] p1) "__init__" ap) (e :: es) [] pos) pos2) (tSupF X D E i ta) := ⟨fun pins s σ H Dn I hw => by
  obtain ⟨a, C, dx, gs, f2, sp, k, fd, ps, hsl, ea, hm, hsup, hty, hfn, hop, F, hr, hb, hw⟩ := hw
  obtain ⟨pl, he⟩ := meth_evalB (o := .Call (.Name "super" p0) [] [] p1) (m := "__init__") (env := X.env) hp hn hl
  refine PySem.ks_wpAt_Expr_any ?_ I.quiet rfl
  refine PySem.ks_wpAt_MethodCall (pl := pl) ?_ he
  obtain ⟨mA, O, _⟩ := ins_get I.hok ea
  obtain ⟨od, J, _⟩ := O.look
  refine super_node S I hN hsl J hm (by decide) fun so h' I2 hso hlt kk => ?_
  obtain ⟨cd, hcd⟩ : ∃ cd, PySem.W.clsIn X.K C = some cd := by
    unfold PySem.W.ks_superIn at hsup
    cases q : PySem.W.clsIn X.K C with
    | none => rw [q] at hsup; cases hsup
    | some cd => exact ⟨cd, rfl⟩
  obtain ⟨hh, g, d, t, os⟩ := s
  have K2 := I2.kIn
  have hxC : a ≠ C := PySem.W.ks_ne I.kIn J hcd
  have hC : PySem.W.Looks (model X.prog X.w) h' (mroOf (.ref C)) cd.mro := fun A Q E s k q => wpAny_bind ((PySem.W.looks_clsIn K2 hcd) A _ E s k (wpAny_pure q))
  have hf : PySem.W.alongIn X.K "__init__" ((cd.mro.dropWhile (· != .ref D)).drop 1) = some (some (.ref f2)) := by
    unfold PySem.W.ks_superIn at hsup
    rw [hcd] at hsup
    exact hsup
  obtain ⟨of, hof, hofc⟩ : ∃ of, h'.get? f2 = some of ∧ of.cls = .type "function" := by
    have ht' : (X.K.lookup f2).map (·.cls) = some (.type "function") := hty
    cases z : X.K.lookup f2 with
    | none => rw [z] at ht'; cases ht'
    | some of => rw [z] at ht'; exact ⟨of, K2 _ _ z, Option.some.inj ht'⟩
  refine PySem.ks_wpAny_getMethod_super (ClX.pin_at I2) (PySem.W.looks_opaque K2 hop) hC rfl K2 hf hof hofc hxC (by decide) ?_
  have I3 : Inv X ((h'.objs.size, PySem.W.methodObj (.ref f2) (.ref a)) :: pins) σ H ⟨h'.push (PySem.W.methodObj (.ref f2) (.ref a)), g, d, t + 1, os⟩ :=
    ClX.pin_new (t' := t + 1) (ClX.unpin I2) (fun _ _ z => Heap.get?_push_of_some _ z) (Nat.le_refl _) (Heap.get?_push_size h' rfl) (fun v z => nomatch z)
  refine callwith_met I3 (ClX.base_none I2 (Nat.le_refl _)) hfn ?_ hp
  refine thn (ha.run pos _ _ σ H _ I3 hw) ?_
  rintro us s3 ⟨vs, H1, I4, rv, qn⟩
  refine ⟨⟨ClX.pin_at I4, I4.kIn⟩, ?_⟩
  refine thn (run_met F hr gd hb (hx σ) I4 rv qn) ?_
  rintro u s5 ⟨v, H2, I5, _, q5⟩
  exact ⟨σ, H2, I5, q5⟩⟩

/-! ### one's own thing behind a call that may have changed it -/
section
variable {K : PySem.W.Frag} {B F0 F H F' H' : Hp} {σ : L2.St} {ρ : Env} {p : Addr}
theorem del_same_of {H : Hp} {a : Addr} : del H a a = none := if_pos rfl
theorem same_del {F H : Hp} (s : Same F H) (hF : F p = none) : Same F (del H p) := fun b u e => by
  rw [del_ne (ne_of_none e hF)]
  exact s b u e
theorem REnv.callO (re : REnv K B F0 F H σ ρ) {i : Nat} {d0 d1 : D} {z : Option Addr} (e : ρ[i]? = some (.ow d0 z)) (es : σ[i]? = some (some (.ref p))) (g : Grow F (del H p) F' H') (hf : F' p = none) (o : Own K F' H' p d1) : REnv K B F0 F' H' σ (ρ.set i (.ow d1 z)) := by
  obtain ⟨v, h1, p', rfl, hB, hF, hO, hz⟩ := re.cell i _ e
  rw [es] at h1
  cases h1
  have hdel : ∀ {b : Addr}, b ≠ p → del H p b = H b := fun h => del_ne h
  have keepOw : ∀ {q : Addr} {d : D}, q ≠ p → F q = none → Own K F H q d → F' q = none ∧ Own K F' H' q d := fun {q d} hq hFq hO => by
    obtain ⟨u, hu⟩ := hO.there
    have hd : del H p q = some u := by rw [hdel hq]; exact hu
    refine ⟨?_, ?_⟩
    · cases w : F' q with
      | none => rfl
      | some u' =>
        rcases g.nw q u' w with y | y
        · rw [hFq] at y; cases y
        · rw [hd] at y; cases y
    · have up : ∀ b u, b ≠ p → H b = some u → H' b = some u := fun b u hb hu => g.h _ _ (by rw [hdel hb]; exact hu)
      cases d with
      | lst ds => obtain ⟨vs, h, r⟩ := hO; exact ⟨vs, up _ _ hq h, r.mono g.f⟩
      | dct kvs => obtain ⟨ks, h, r⟩ := hO; exact ⟨ks, up _ _ hq h, r.mono g.f⟩
      | obj c fs => obtain ⟨gs, ⟨C, dx, hc, h⟩, r⟩ := hO; exact ⟨gs, ⟨C, dx, hc, up _ _ hq h⟩, r.mono g.f⟩
      | _ => exact hO.elim
  refine ⟨fun b u w => g.h _ _ (by rw [hdel (ne_of_none w hB)]; exact re.bh b u w), re.f0.trans g.f, g.fh, fun a o w => ?_, by rw [List.length_set]; exact re.len, fun j c ej => ?_, fun j k d2 d3 z2 z3 q hjk ej ek ejs => ?_⟩
  · rcases g.nw a o w with y | y
    · exact re.fr a o y
    · by_cases ha : a = p
      · subst ha; exact .inr hB
      · rw [hdel ha] at y
        exact .inr (re.bh.free y)
  · rcases set_at ej with ⟨rfl, hi, rfl⟩ | ⟨hj, ej2⟩
    · exact ⟨_, es, p, rfl, hB, hf, o, hz⟩
    · obtain ⟨w, w1, w2⟩ := re.cell j c ej2
      refine ⟨w, w1, ?_⟩
      cases c with
      | no => trivial
      | sh d => obtain ⟨x, rfl, r⟩ := w2; exact ⟨x, rfl, r.mono g.f⟩
      | ow d y =>
        obtain ⟨q, rfl, q1, q2, q3, q4⟩ := w2
        have hq : q ≠ p := fun w => by
          subst w
          exact re.dis j i d d0 _ _ q hj ej2 e w1 es
        obtain ⟨a1, a2⟩ := keepOw hq q2 q3
        exact ⟨q, rfl, q1, a1, a2, q4⟩
  · rcases set_at ej with ⟨rfl, hi, hq⟩ | ⟨hj, ej2⟩
    · rcases set_at ek with ⟨rfl, _, _⟩ | ⟨hk, ek2⟩
      · exact absurd rfl hjk
      · exact re.dis _ k _ _ _ _ q hjk e ek2 ejs
    · rcases set_at ek with ⟨rfl, _, _⟩ | ⟨hk, ek2⟩
      · exact re.dis j _ _ _ _ _ q hjk ej2 e ejs
      · exact re.dis j k _ _ _ _ q hjk ej2 ek2 ejs
end

/-! ### a def with an own first argument -/
def startO (N : List Str) (z : Option Addr) (d0 : D) (ds : List D) : Env := .ow d0 z :: (ds.map .sh ++ List.replicate (N.length - (ds.length + 1)) .no)
theorem start_envO {K : PySem.W.Frag} {F H : Hp} {N : List Str} {vs : List V} {ds : List D} {p : Addr} {d0 : D} (s : Same F H) (hF : F p = none) (o : Own K F H p d0) (r : RepL K F vs ds) (hl : vs.length + 1 ≤ N.length) : REnv K (del H p) F F H (L2.start N (.ref p :: vs)) (startO N (some p) d0 ds) where
  bh := fun b u e => by
    by_cases hb : b = p
    · subst hb; rw [del_same] at e; cases e
    · rw [del_ne hb] at e; exact e
  f0 := Same.refl F
  fh := s
  fr := fun _ _ e => .inl e
  len := by
    unfold L2.start startO
    simp only [List.length_append, List.length_map, List.length_cons, List.length_replicate, r.length]
    omega
  cell := fun i c e => by
    cases i with
    | zero =>
      cases e
      exact ⟨some (.ref p), rfl, p, rfl, del_same, hF, o, fun q z => by cases z; rfl⟩
    | succ i =>
      have e2 : (ds.map Cell.sh ++ List.replicate (N.length - (ds.length + 1)) Cell.no)[i]? = some c := by
        have e : (startO N (some p) d0 ds)[i + 1]? = some c := e
        unfold startO at e
        rw [List.getElem?_cons_succ] at e
        exact e
      have es : (L2.start N (.ref p :: vs))[i + 1]? = (vs.map some ++ List.replicate (N.length - (vs.length + 1)) none)[i]? := by
        unfold L2.start
        rw [List.map_cons, List.cons_append, List.getElem?_cons_succ]
        rfl
      rw [es]
      by_cases hi : i < ds.length
      · rw [List.getElem?_append_left (by simpa using hi), List.getElem?_map] at e2
        obtain ⟨d, hd⟩ : ∃ d, ds[i]? = some d := ⟨_, List.getElem?_eq_getElem hi⟩
        rw [hd] at e2
        cases e2
        obtain ⟨v, h1, h2⟩ := r.get hd
        refine ⟨some v, ?_, v, rfl, h2⟩
        rw [List.getElem?_append_left (by rw [List.length_map, r.length]; exact hi), List.getElem?_map, h1]
        rfl
      · have hi' : ds.length ≤ i := Nat.le_of_not_lt hi
        rw [List.getElem?_append_right (by simpa using hi'), List.length_map] at e2
        rw [List.getElem?_append_right (by rw [List.length_map, r.length]; exact hi'), List.length_map, r.length]
        rw [List.getElem?_replicate] at e2 ⊢
        split at e2
        · rename_i q
          cases e2
          exact ⟨none, by rw [if_pos q], trivial⟩
        · cases e2
  dis := fun i j d e z y q hij h1 h2 h3 => by
    exfalso
    have z0 : ∀ {k : Nat} {d : D} {z : Option Addr}, (startO N (some p) d0 ds)[k]? = some (.ow d z) → k = 0 := fun {k d z} h => by
      cases k with
      | zero => rfl
      | succ k =>
        unfold startO at h
        rw [List.getElem?_cons_succ] at h
        have hm := List.mem_of_getElem? h
        rw [List.mem_append] at hm
        rcases hm with hm | hm
        · obtain ⟨d, _, q⟩ := List.mem_map.mp hm; cases q
        · have := List.eq_of_mem_replicate hm; cases this
    exact hij ((z0 h1).trans (z0 h2).symm)
/-- what the first argument has become -/
def outO (z : Option Addr) (ρ : Env) (Q : D → Prop) : Prop := match (ρ[(0 : Nat)]? : Option Cell) with
  | some (.ow d z') => z' = z ∧ Q d
  | _ => False
theorem outO_is {z : Option Addr} {ρ : Env} {Q : D → Prop} (h : outO z ρ Q) : ∃ d, ρ[0]? = some (.ow d z) ∧ Q d := by
  unfold outO at h
  split at h
  · rename_i d z' e
    obtain ⟨rfl, h⟩ := h
    exact ⟨d, e, h⟩
  · exact h.elim
def endO (z : Option Addr) (QD : D → D → Prop) : EndD := { nx := fun ρ => outO z ρ (QD .non), rt := fun d ρ => outO z ρ (QD d) }
section
variable {P : Program} {w : World} {K : PySem.W.Frag} {mg : Str → Option Value} {base : Heap} {k : Nat} {gl : List (Str × GV)}
theorem lk_endO {H : Hp} {p : Addr} {F0 : Hp} {QD : D → D → Prop} {Q : VK} (kq : ∀ v H' F' d d1, Grow F0 (del H p) F' H' → F' p = none → Own K F' H' p d1 → Rep K F' v d → QD d d1 → Q v H') :
    Lk K (del H p) F0 (endO (some p) QD) { nx := fun _ H' => Q .non H', rt := Q } := by
  have fin : ∀ {σ : L2.St} {H' F' : Hp} {ρ : Env} {v : V} {d : D}, REnv K (del H p) F0 F' H' σ ρ → Rep K F' v d → outO (some p) ρ (QD d) → Q v H' := fun {σ H' F' ρ v d} re rp q => by
    obtain ⟨d1, e, q1⟩ := outO_is q
    obtain ⟨w, h1, p', rfl, hB, hF, hO, hz⟩ := re.cell 0 _ e
    have := hz p rfl
    subst this
    exact kq v H' F' d d1 re.gr0 hF hO rp q1
  exact ⟨fun σ' H' F' ρ' re q => fin re .non q, fun v σ' H' F' ρ' d re rp q => fin re rp q, fun σ' H' F' ρ' re q => (show False from q).elim, fun σ' H' F' ρ' re q => (show False from q).elim, fun _ _ _ _ _ _ _ _ _ _ q => (show False from q).elim⟩
/-- the wish about errors, with the first argument -/
def exO (H : Hp) (p : Addr) (F0 : Hp) (ED : Xn → D → Prop) : EX := ⟨del H p, F0, fun x ρ => outO (some p) ρ (ED x)⟩
theorem exO_ok {H : Hp} {p : Addr} {F0 : Hp} {ED : Xn → D → Prop} {E : XK} (ke : ∀ x cls dx H' F' d1, Grow F0 (del H p) F' H' → F' p = none → Own K F' H' p d1 → XRep K F' x cls dx → ED x d1 → E cls dx H') : ∀ cls dx σ H', wX K (exO H p F0 ED) cls dx σ H' → E cls dx H' := fun cls dx σ H' ⟨F, ρ, x, re, xr, q⟩ => by
  obtain ⟨d1, e, q1⟩ := outO_is q
  obtain ⟨w, h1, p', rfl, hB, hF, hO, hz⟩ := re.cell 0 _ e
  have := hz p rfl
  subst this
  exact ke x cls dx H' F d1 re.gr0 hF hO xr q1
theorem def_okI {R : Rules} (O : RulesOk R) {n : Nat} {x qual : Str} {st : Stmt} {f : Addr} {fd : FuncData} {N ps : List Str} {own : List Nat} {c : CS} {mo : MO} (F : Fun K x qual st f fd) (S : FnScope N ps (defScope st)) (hpl : ps.length ≤ N.length) (hg : GlB P w K mg base k gl)
    (he : ssOf (recN R n) (mkSg N (defScope st) gl own false true) (defBody st) = some c) (hm : ∀ z d0 ds QD ED, mo d0 ds QD ED → c (startO N z d0 ds) (endO z QD) (fun x ρ => outO z ρ (ED x))) : FnG P w K mg base (L2.CX P w) (k + 1) f fd ps (SpO K ps.length mo) := by
  refine Fun.okG F S (fun vs H Q E h => ?_) (fun cdv A outer s H vs Q E hr gd h => ?_)
  · obtain ⟨_, _, _, h, _⟩ := h; exact h
  · obtain ⟨p, rest, rfl, hn, F0, ds, d0, QD, ED, sm, hF, hO, r, hq, kq, ke⟩ := h
    have sg : SgOk (cxOf (L2.CX P w) P w K mg base N qual (defScope st) f cdv A outer s H E) (mkSg N (defScope st) gl own false true) (exO H p F0 ED) :=
      (cx_ok (n := n) S hg hr gd (F0 := F0) (ED := fun _ => False) fun _ _ _ _ _ _ _ q => q.elim).ex ((takes_of rfl rfl rfl rfl).imp (exO_ok ke)) (fun h => by cases h)
    exact ⟨rdS K (exO H p F0 ED) c, ssOf_ok (recN_ok O n) sg PassesOwn.leaving he, F0, startO N (some p) d0 ds, _, start_envO sm hF hO r (by rw [List.length_cons] at hn; omega), hm (some p) d0 ds QD ED hq, lk_endO kq⟩
end
end DL
/-! __init__ of own classes: fields set, super().__init__(..); C(..) -/
namespace DL
open PySem L2 PySem.Spec PyProof.Rows

def putFD (f : Str) (d : D) : List (Str × D) → List (Str × D)
  | [] => [(f, d)]
  | (g, x) :: r => if g = f then (g, d) :: r else (g, x) :: putFD f d r
theorem RepF.put {K : PySem.W.Frag} {F : Hp} {f : Str} {v : V} {d : D} (h : Rep K F v d) : ∀ {gs : List (Str × V)} {fs : List (Str × D)}, RepF K F gs fs → RepF K F (putF f v gs) (putFD f d fs)
  | _, _, .nil => .cons h .nil
  | _, _, .cons (f := g) r t => by
    unfold putF putFD
    by_cases e : g = f
    · rw [if_pos e, if_pos e]; exact .cons h t
    · rw [if_neg e, if_neg e]; exact .cons r (RepF.put h t)
theorem RepF.length {K : PySem.W.Frag} {F : Hp} : ∀ {gs : List (Str × V)} {fs : List (Str × D)}, RepF K F gs fs → gs.length = fs.length
  | _, _, .nil => rfl
  | _, _, .cons _ t => by simp [RepF.length t]
/-! ### self.f = e, self one's own -/
def sFst (gl : List (Str × GV)) (i : Nat) (f : Str) (c : CB) : CS := fun ρ W E => c ρ (fun d => match (ρ[i]? : Option Cell) with
  | some (.ow (.obj cn fs) z) => (clsF gl cn).contains f = true ∧ fs.length < 1000 ∧ W.nx (ρ.set i (.ow (.obj cn (putFD f d fs)) z))
  | _ => False) (fun x => E x ρ)
def isOwO (ρ : Env) (i : Nat) : Prop := match (ρ[i]? : Option Cell) with
  | some (.ow (.obj _ _) _) => True
  | _ => False
theorem rs_fst {X : Cx} {g : Sg} {E : EX} (ok : SgOk X g E) {i : Nat} {x f : Str} {p pos' pos : Pos} {e : Expr} {xe : CB} (hi : slotOf g x = some i) (he : PE X e (rdF X.K E xe)) (hs : swapsWith e (some (.Attribute (.Name x p) f pos')) pos.line X.env = pure false) :
    PS X (.Assign [.Attribute (.Name x p) f pos'] e pos) (rdS X.K E (fun ρ W E => isOwO ρ i ∧ sFst g.gl i f xe ρ W E)) := by
  obtain ⟨q1, q2, q3, q4⟩ := slotOf_is hi
  refine PS.imp (ps_fld (pe_var (i := i) (by rw [ok.N]; exact q1) (by rw [ok.sc]; exact q2) q3 q4) he hs) fun Dn σ H ⟨F, ρ, W, re, ⟨h0, h⟩, l⟩ => ?_
  refine ⟨F, ρ, _, re, h, fun v H1 F1 d g1 r1 q => ?_⟩
  have re1 := re.grow g1
  split at q
  · rename_i cn fs z eρ
    obtain ⟨hf, hl, q⟩ := q
    obtain ⟨w, h1, p', rfl, hB, hF, ⟨gs, ⟨C, dx, hc, hi'⟩, rf⟩, hz⟩ := re1.cell i _ eρ
    obtain ⟨C2, hc2, _, hcl, hno⟩ := clsF_is ok hf
    have := hc2.one hc
    subst this
    refine ⟨.ref p', h1, p', C2, dx, gs, rfl, hi', hcl, hno, by rw [rf.length]; exact hl, ?_⟩
    exact l.nx _ _ _ _ (re1.chg (d := .obj cn (putFD f d fs)) eρ h1 fun H2 h2 => ⟨_, ⟨C2, dx, hc2, h2⟩, rf.put r1⟩) q
  · exact q.elim
def sAtt : SR := fun r g st => match st with
  | .Assign [.Attribute (.Name x _) f _] e _ => if noComp e = true then match slotOf g x, fOf r g e with
    | some i, some c => if i ∈ g.own then some (fun ρ W E => isOwO ρ i ∧ sFst g.gl i f c ρ W E) else none
    | _, _ => none else none
  | _ => none
theorem sAtt_ok : SrOk sAtt := by
  intro r R X g E st c ok hp h
  unfold sAtt at h
  split at h
  · split at h
    · rename_i hn
      split at h
      · rename_i i c h1 h2
        split at h
        · cases h
          exact rs_fst ok h1 (fOf_ok R ok h2) (noComp_sw hn _ _)
        · cases h
      · cases h
    · cases h
  · cases h

/-! ### super().__init__(..) -/
def spKey (c dn : Str) : Str := "super:" ++ c ++ ":" ++ dn
def sSup (gl : List (Str × GV)) (dn : Str) (l : CL) : CS := fun ρ W E => match (ρ[(0 : Nat)]? : Option Cell) with
  | some (.ow (.obj c fs) z) => match gl.lookup (spKey c dn) with
    | some (.spi c' dn' n mo) => (c' = c ∧ dn' = dn) ∧ l ρ (fun ds => ds.length = n ∧ mo (.obj c fs) ds (fun _ d1 => W.nx (ρ.set 0 (.ow d1 z))) (fun x d1 => E x (ρ.set 0 (.ow d1 z)))) (fun x => E x ρ)
    | _ => False
  | _ => False
def supE : Stmt → Option (List Expr)
  | .Expr (.Call (.Attribute (.Call (.Name x _) [] [] _) m ap) (e :: es) [] pos) _ => if (decide (x = ("super" : Str)) && decide (m = ("__init__" : Str)) && (ap.endLine == pos.line) && decide ((e :: es).length < 30)) = true then some (e :: es) else none
  | _ => none
def ssuOf (r : Rec) (g : Sg) (dn : Str) : List Stmt → Option CS
  | [] => some sNil
  | st :: ss => match ssuOf r g dn ss with
    | some b => match supE st with
      | some es => (lOf r g es).map fun l => sSeq (sSup g.gl dn l) b
      | none => (r.s g st).map fun a => sSeq a b
    | none => none
section
variable {X : Cx} {g : Sg} {E : EX} {f cda cc D : Addr} {q fst dn : Str}
theorem rs_sup {r : Rec} (R : RecOk r) (ok : SgOk X g E) (S : SupF X f cda cc D q fst) (hN : X.N[(0 : Nat)]? = some fst) (hD : ClsAt X.K dn D) {body : List Stmt} {st : Stmt} {es : List Expr} {l : CL} (hs : supE st = some es) (hl : lOf r g es = some l) :
    PSA X (.func body X.env) st (rdS X.K E (sSup g.gl dn l)) := by
  unfold supE at hs
  split at hs
  · rename_i x p0 p1 m ap e es' pos p2
    split at hs
    · rename_i hb
      cases hs
      simp only [Bool.and_eq_true, decide_eq_true_eq] at hb
      obtain ⟨⟨⟨rfl, rfl⟩, hline⟩, hlen⟩ := hb
      obtain ⟨h2, h3⟩ := lOf_ok (E := E) R ok hl
      refine (psa_supF (E := WE (wX X.K E)) S hN ok.gd (fun σ => passAt ok.tk σ) h2 h3 hlen hline).imp fun Dn σ H ⟨F, ρ, W, re, h, lk⟩ => ?_
      unfold sSup at h
      split at h
      · rename_i c fs z eρ
        split at h
        · rename_i c' dn' n mo el
          obtain ⟨⟨rfl, rfl⟩, h⟩ := h
          obtain ⟨C, Da, f2, k, fd, ps, hc, hd, hm, hsup, hty, hfn, hop, hF, hr, hb, hn⟩ := ok.gl _ _ el
          have := hd.one hD
          subst this
          obtain ⟨w, h1, p, rfl, hB, hFp, ⟨gs, ⟨C', dx, hc', hi⟩, rf⟩, hz⟩ := re.cell 0 _ eρ
          have := hc.one hc'
          subst this
          refine ⟨p, C, dx, gs, f2, _, k, fd, ps, h1, hi, hm, hsup, hty, hfn, hop, hF, hr, hb, F, ρ, _, re, h, fun vs H1 F1 ds g1 r1 hlen' q => ?_⟩
          obtain ⟨q1, q2⟩ := q
          have re1 := re.grow g1
          obtain ⟨w1, e1, p1', ep, hB1, hF1, hO1, hz1⟩ := re1.cell 0 _ eρ
          rw [h1] at e1
          rw [ep] at e1
          cases e1
          exact ⟨p, vs, rfl, by rw [hn, List.length_cons, hlen', ← hlen', r1.length, q1], F1, ds, _, _, _, g1.fh, hF1, hO1, r1, q2, fun v H' F' d d1 g2 hf o rp qd => lk.nx _ _ _ _ (re1.callO eρ h1 g2 hf o) qd,
            fun x cls dx H' F' d1 g2 hf o xr qd => ⟨F', _, x, re1.callO eρ h1 g2 hf o, xr, qd⟩⟩
        · exact h.elim
      · exact h.elim
    · cases hs
  · cases hs
theorem ssuOf_ok {r : Rec} (R : RecOk r) (ok : SgOk X g E) (hp : PassesOwn (model X.prog X.w) X.A X.env X.xe) (S : SupF X f cda cc D q fst) (hN : X.N[(0 : Nat)]? = some fst) (hD : ClsAt X.K dn D) {body : List Stmt} : ∀ {ss : List Stmt} {c : CS}, ssuOf r g dn ss = some c → PSsA X (.func body X.env) ss (rdS X.K E c)
  | [], _, h => by cases h; exact PSs.at rss_nil
  | st :: ss, c, h => by
    unfold ssuOf at h
    split at h
    · rename_i b hb
      have ih := ssuOf_ok R ok hp S hN hD (body := body) hb
      have seq : ∀ {a : CS}, PSA X (.func body X.env) st (rdS X.K E a) → PSsA X (.func body X.env) (st :: ss) (rdS X.K E (sSeq a b)) := fun {a} ha => (psa_cons ha ih).imp fun Dn σ H ⟨F, ρ, W, re, h, l⟩ =>
        ⟨F, ρ, _, re, h, ⟨fun σ' H' F' ρ' r q => ⟨F', ρ', W, r, q, l⟩, l.rt, l.bk, l.ct, l.ro⟩⟩
      split at h
      · rename_i es hs
        obtain ⟨l, h1, rfl⟩ := map_some h
        exact seq (rs_sup R ok S hN hD hs h1)
      · obtain ⟨a, h1, rfl⟩ := map_some h
        exact seq (PS.at (R.s ok hp h1))
    · cases h
end
section
variable {P : Program} {w : World} {K : PySem.W.Frag} {mg : Str → Option Value} {base : Heap} {k : Nat} {gl : List (Str × GV)}
theorem cx_okS {qual : Str} {sc : Scope} {f cc : Addr} {N ps : List Str} {own : List Nat} {cdv : Value} {A : Around} {outer : List PySem.Env} {s : Shared} {H : Hp} {E : XK} (S : FnScopeS N ps sc) (hg : GlB P w K mg base k gl)
    (hr : Room k (A.deeper (PySem.W.ksEnv qual sc s.heap.objs.size f cdv cc))) (gd : A.guards = some []) (hst : (mkSg N sc gl own).st.all (fun x => decide (sc.names.lookup x = some .local)) = true) {E' : EX} (tk : Takes (cxS (L2.CX P w) P w K mg base N qual sc f cdv cc A outer s H E) (wX K E')) :
    SgOk (cxS (L2.CX P w) P w K mg base N qual sc f cdv cc A outer s H E) (mkSg N sc gl own false true) E' := by
  refine ⟨tk, rfl, S.nd, rfl, S.kind, rfl, gd, ?_, fun x hx => ?_, fun x v hx => ?_, fun _ => ⟨rfl, rfl, rfl⟩, fun h => by cases h⟩
  · have := hr.un
    refine Nat.lt_of_le_of_lt ?_ this
    show (A.deeper _).units + 110 ≤ _
    omega
  · have h := List.all_eq_true.mp hst x hx
    have h : sc.names.lookup x = some .local := by simpa using h
    exact ⟨.inl h, .inr h⟩
  · have hx : gl.lookup x = some v := hx
    have q := hg _ (mem_of_look hx)
    cases v with
    | fn n m kw =>
      obtain ⟨j, f', fd', ps', hj, h1, h2⟩ := q
      exact ⟨j, f', fd', ps', h1, hr.mono hj, h2⟩
    | fo n m kw =>
      obtain ⟨j, f', fd', ps', hj, h1, h2⟩ := q
      exact ⟨j, f', fd', ps', h1, hr.mono hj, h2⟩
    | cv d => exact q
    | bi id m => exact q
    | ty T m => exact q
    | sp => exact q
    | cls fl => exact q
    | xb c => exact q
    | xis c d b => exact q
    | bt T => exact q
    | xit c T b => exact q
    | me c m n mm kw =>
      obtain ⟨C, j, f', fd', ps', hj, h1, h2, h3, h4, h5⟩ := q
      exact ⟨C, j, f', fd', ps', h1, h2, h3, h4, hr.mono hj, h5⟩
    | pr c f mm =>
      obtain ⟨C, j, p', g', fd', ps', hj, h1, h2, h3, h4, h5⟩ := q
      exact ⟨C, j, p', g', fd', ps', h1, h2, h3, h4, hr.mono hj, h5⟩
    | xc fo =>
      obtain ⟨C, fI, fd', j, hj, h1, h2, h3, h4, h5⟩ := q
      exact ⟨C, fI, fd', j, h1, h2, h3, h4, h5, hr.mono hj⟩
    | ini c n mo kw =>
      obtain ⟨C, f', j, fd', ps', hj, h1, h2, h3, h4, h5⟩ := q
      exact ⟨C, f', j, fd', ps', h1, h2, h3, h4, hr.mono hj, h5⟩
    | spi c dn n mo =>
      obtain ⟨C, Da, f', j, fd', ps', hj, h1, h2, h3, h4, h5, h6, h7, h8, h9⟩ := q
      exact ⟨C, Da, f', j, fd', ps', h1, h2, h3, h4, h5, h6, h7, h8, hr.mono hj, h9⟩
    | cc c f d => exact q
    | stm c m n mm kw =>
      obtain ⟨C, p', g', mc, j, fd', ps', hj, h1, h2, h3, h4, h5⟩ := q
      exact ⟨C, p', g', mc, j, fd', ps', h1, h2, h3, h4, hr.mono hj, h5⟩
    | isa c d b => exact q
    | ops c os ne => exact q
    | mo c m n mm kw =>
      obtain ⟨C, j, f', fd', ps', hj, h1, h2, h3, h4, h5⟩ := q
      exact ⟨C, j, f', fd', ps', h1, h2, h3, h4, hr.mono hj, h5⟩
end
end DL
namespace DL
open PySem L2 PySem.Spec PyProof.Rows

section
variable {P : Program} {w : World} {K : PySem.W.Frag} {mg : Str → Option Value} {base : Heap} {k : Nat} {gl : List (Str × GV)}
theorem def_okS {R : Rules} (O : RulesOk R) {n : Nat} {x qual dn fst : Str} {st : Stmt} {f cda cc D : Addr} {fd : FuncData} {N ps : List Str} {own : List Nat} {c : CS} {mo : MO} (F : FunS P K x qual st f cda cc D fd) (S : FnScopeS N ps (defScope st)) (hpl : ps.length ≤ N.length) (hmg : mg "super" = none)
    (hf : ps[0]? = some fst) (hfst : ∃ ar : Arg, ((defArgs st).posonlyargs ++ (defArgs st).args).head? = some ar ∧ ar.arg = fst) (hD : ClsAt K dn D) (hst : (mkSg N (defScope st) gl own).st.all (fun x => decide ((defScope st).names.lookup x = some .local)) = true) (hg : GlB P w K mg base k gl)
    (he : ssuOf (recN R n) (mkSg N (defScope st) gl own false true) dn (defBody st) = some c) (hm : ∀ z d0 ds QD ED, mo d0 ds QD ED → c (startO N z d0 ds) (endO z QD) (fun x ρ => outO z ρ (ED x))) : FnG P w K mg base (L2.CX P w) (k + 1) f fd ps (SpO K ps.length mo) := by
  refine FunS.okG F S (fun vs H Q E h => ?_) (fun A outer s H vs Q E hr gd h => ?_)
  · obtain ⟨_, _, _, h, _⟩ := h; exact h
  · obtain ⟨p, rest, rfl, hn, F0, ds, d0, QD, ED, sm, hF, hO, r, hq, kq, ke⟩ := h
    have tk0 : Takes (cxS (L2.CX P w) P w K mg base N qual (defScope st) f (.ref cda) cc A outer s H E) (wX K (exO H p F0 ED)) := (takes_of rfl rfl rfl rfl).imp (exO_ok ke)
    have sg := cx_okS (own := own) S hg hr gd hst tk0
    have hN : N[(0 : Nat)]? = some fst := by
      have h1 := S.pre
      rw [← h1] at hf
      rw [List.getElem?_take] at hf
      split at hf
      · exact hf
      · cases hf
    exact ⟨_, ssuOf_ok (recN_ok O n) sg PassesOwn.leaving (supF_of F S hmg hf hfst) hN hD he, F0, startO N (some p) d0 ds, _, start_envO sm hF hO r (by rw [List.length_cons] at hn; omega), hm (some p) d0 ds QD ED hq, lk_endO kq⟩
end
end DL
/-! C(..): an own class's instance made -/
namespace DL
open PySem L2 PySem.Spec PyProof.Rows

def mkKey (c : Str) : Str := "make:" ++ c
def mkC (c : Str) (n : Nat) (mo : MO) (ds : List D) : M (D × Bool) := fun Q E => ds.length = n ∧ mo (.obj c []) ds (fun v d1 => v = .non ∧ Q (d1, true)) (fun x _ => E x)
def cMake (c : Str) (n : Nat) (mo : MO) (l : CL) : CV := fun ρ => bnd (l ρ) fun ds => mkC c n mo ds
def cMakeK (c : Str) (n : Nat) (is : List Nat) (mo : MO) (l k : CL) : CV := fun ρ => bnd (l ρ) fun ds => bnd (k ρ) fun es => mkC c n mo (pick is (ds ++ es))
theorem pick_up {α : Type} (a : α) (xs : List α) (is : List Nat) : pick (0 :: is.map (· + 1)) (a :: xs) = a :: pick is xs := by
  unfold pick
  rw [List.filterMap_cons_some (f := fun i => (a :: xs)[i]?) (b := a) rfl, List.filterMap_map]
  rfl
section
variable {X : Cx} {E : EX} {k : Nat} {f C : Addr} {fd : FuncData} {ps ks : List Str} {mo : MO} {c x : Str} {n : Nat}
theorem sp_mk {H H1 F F1 : Hp} {Q : D × Bool → Prop} {Q' : VK} {vs : List V} {ds : List D} {ED : Xn → Prop} {W : XK} (hc : ClsAt X.K c C) (kq : ∀ v H' F' r, Grow F H F' H' → Val X.K F' H' H v r → Q r → Q' v H') (g1 : Grow F H F1 H1) (r1 : RepL X.K F1 vs ds) (hn : ps.length = n + 1) (h : mkC c n mo ds Q ED)
    (ke : ∀ x cls dx H' F', Grow F H F' H' → XRep X.K F' x cls dx → ED x → W cls dx H') : ∀ x dx, H1 x = none → H1 dx = none → dx ≠ x → SpO X.K ps.length mo (.ref x :: vs) (upd (upd H1 dx (.own x)) x (.ins C dx [])) (fun v H2 => v = .non ∧ Q' (.ref x) H2) W := fun x dx hx hdx hne => by
  have e : del (upd (upd H1 dx (.own x)) x (.ins C dx [])) x = upd H1 dx (.own x) := by
    funext b
    by_cases h1 : b = x
    · subst h1; rw [del_same, upd_ne (Ne.symm hne), hx]
    · rw [del_ne h1, upd_ne h1]
  have g2 : Grow F1 H1 F1 (upd H1 dx (.own x)) := Grow.own g1.fh hdx _
  have fx : F1 x = none := g1.fh.free hx
  have o : Own X.K F1 (upd (upd H1 dx (.own x)) x (.ins C dx [])) x (.obj c []) := ⟨[], ⟨C, dx, hc, upd_same⟩, .nil⟩
  have sm : Same F1 (upd (upd H1 dx (.own x)) x (.ins C dx [])) := fun b u w => by
    rw [upd_ne (ne_of_none w fx)]
    exact g2.fh b u w
  refine ⟨x, vs, rfl, by rw [List.length_cons, hn, r1.length, h.1], F1, ds, .obj c [], _, _, sm, fx, o, r1, h.2, fun v H' F' d d1 g3 hf o' rp q => ?_, fun x' cls dx' H' F' d1 g3 hf o' xr q => ?_⟩
  · rw [e] at g3
    obtain ⟨rfl, q⟩ := q
    cases rp
    refine ⟨rfl, kq (.ref x) H' F' (d1, true) ((g1.trans g2).trans g3) ?_ q⟩
    exact Val.own (g1.h.free hx) hf o'
  · rw [e] at g3
    exact ke x' cls dx' H' F' ((g1.trans g2).trans g3) xr q
theorem run_makeG {sp : Sp} {pins : List (Addr × Obj)} {σ : L2.St} {H : Hp} {s : Shared} {Q : VK} {W : XK} {us ws : List Value} {kw : List (Str × Value)} {zs : List V} (M : Mk X.K C f) (F : FnG X.prog X.w X.K X.mg X.base (L2.CX X.prog X.w) k f fd ps sp) (hr : Room (k + 1) X.A) (gd : X.A.guards = some [])
    (hx : PassesAt (L2.CX X.prog X.w) X σ W) (I : Inv X pins σ H s) (r : Vals zs ws) (hb : ∀ (s : Shared) (x : Addr), X.K.In s.heap → BindsTo s fd ⟨.ref x :: us, kw⟩ (ps.zip (.ref x :: ws)))
    (h : ∀ x dx, H x = none → H dx = none → dx ≠ x → sp (.ref x :: zs) (upd (upd H dx (.own x)) x (.ins C dx [])) (fun v H2 => v = .non ∧ Q (.ref x) H2) W) :
    wpAny (model X.prog X.w) X.A (call (.ref C) us kw) (EP X pins σ Q) X.xe s := by
  have hq := h (s.heap.objs.size + 1) s.heap.objs.size (I.hok.fresh (Nat.le_succ _)) (I.hok.fresh (Nat.le_refl _)) (Nat.ne_of_lt (Nat.lt_succ_self _))
  have I2 := Inv.made (C := C) I
  have r2 : Vals (V.ref (s.heap.objs.size + 1) :: zs) (Value.ref (s.heap.objs.size + 1) :: ws) := .cons rfl r
  refine wpAny_call (make_map (f := f) I.kIn M.makes M.init (beq_iff_eq.mp M.fn) (codeAny_mono (F.run _ X.stack _ _ ⟨Value.ref (s.heap.objs.size + 1) :: us, kw⟩ (Value.ref (s.heap.objs.size + 1) :: ws) _ _ W (hr.make C us kw) gd
    (I2.env0.make C us kw) (hb _ _ I2.kIn) r2 hq) fun r s' hq' => ?_))
  cases r with
  | error e => exact hx pins _ _ e s' I2 hq'
  | ok fl =>
    cases fl with
    | ret u =>
      obtain ⟨v, H', I3, rv, ev, q3⟩ := I2.after hq'
      subst ev
      exact ⟨rv, ⟨V.ref (s.heap.objs.size + 1), H', I3, rfl, q3⟩⟩
    | next => exact False.elim hq'
    | brk => exact False.elim hq'
    | cont => exact False.elim hq'
variable {p pos : Pos} {e : Expr} {es : List Expr} {kws : List Keyword} {cl ck : CL}
theorem bind_pos (hb : Binds X.K fd ps []) (hn : ps.length = n + 1) {us : List Value} (hl : us.length = n) : ∀ (s : Shared) (x : Addr), X.K.In s.heap → BindsTo s fd ⟨.ref x :: us, []⟩ (ps.zip (.ref x :: us)) := fun s x hk => by
  have := hb s (.ref x :: us) hk (by rw [List.append_nil, List.length_cons, hl, hn])
  rw [List.append_nil] at this
  exact this
theorem re_make (hc : ClsAt X.K c C) (M : Mk X.K C f) (F : FnG X.prog X.w X.K X.mg X.base (L2.CX X.prog X.w) k f fd ps (SpO X.K ps.length mo)) (hr : Room (k + 1) X.A) (gd : X.A.guards = some []) (hg : Gl X x) (hm : X.mg x = some (.ref C)) (hb : Binds X.K fd ps []) (hn : ps.length = n + 1) (tk : Takes X (wX X.K E))
    {m : Nat} (hl : PA X (e :: es) (rdL X.K E m cl)) (hdb : (x == ("__debug__" : Str)) = false) (hs : starEach (e :: es) X.env = (false, eval e X.env) :: starEach es X.env) (hpl : (backTo pos (starEach es X.env)).any (·.1) = false) :
    PE X (.Call (.Name x p) (e :: es) [] pos) (rdV X.K E (cMake c n mo cl)) := by
  refine ⟨fun pins s σ H Q' I hw => ?_⟩
  obtain ⟨Fz, ρ, Q, re, h, kq⟩ := hw
  refine wpAny_Call_Name_kw (ld_glob I hg hm ?_ hdb)
  refine PySem.W.callWith_K (h₀ := X.base) I.ok.mod.kin M.kp (thn (hl.run pos pins s σ H (fun vs H1 => ∃ F1 ds, Grow Fz H F1 H1 ∧ RepL X.K F1 vs ds ∧ mkC c n mo ds Q (E.at ρ)) I ⟨Fz, ρ, _, re, h, fun vs H1 F1 ds g1 r1 _ q => ⟨F1, ds, g1, r1, q⟩⟩) ?_) hs hpl
  rintro us s1 ⟨vs, H1, I1, rv, F1, ds, g1, r1, q⟩
  exact ⟨I1.kIn, run_makeG (us := us) M F hr gd (passAt tk σ) I1 rv (bind_pos hb hn (by rw [← rv.length, r1.length]; exact q.1)) (sp_mk hc kq g1 r1 hn q re.err)⟩
theorem re_make0 (hc : ClsAt X.K c C) (M : Mk X.K C f) (F : FnG X.prog X.w X.K X.mg X.base (L2.CX X.prog X.w) k f fd ps (SpO X.K ps.length mo)) (hr : Room (k + 1) X.A) (gd : X.A.guards = some []) (hg : Gl X x) (hm : X.mg x = some (.ref C)) (hb : Binds X.K fd ps []) (hn : ps.length = n + 1) (tk : Takes X (wX X.K E))
    (hdb : (x == ("__debug__" : Str)) = false) : PE X (.Call (.Name x p) [] [] pos) (rdV X.K E (cMake c n mo cNil)) := by
  refine ⟨fun pins s σ H Q' I hw => ?_⟩
  obtain ⟨Fz, ρ, Q, re, h, kq⟩ := hw
  refine wpAny_Call_Name_kw (ld_glob I hg hm ?_ hdb)
  exact PySem.W.callWith_K0 I.kIn M.kp (run_makeG (us := []) (ws := []) (zs := []) M F hr gd (passAt tk σ) I .nil (bind_pos hb hn (show 0 = n from h.1)) (sp_mk hc kq re.gr .nil hn h re.err))
theorem bind_kw {m : Nat} {is : List Nat} (hb : KwOk X.K fd ps (m + 1) ks (0 :: is.map (· + 1))) {us ws : List Value} (hl : us.length = m) (hz : ws.length = ks.length) : ∀ (s : Shared) (x : Addr), X.K.In s.heap → BindsTo s fd ⟨.ref x :: us, ks.zip ws⟩ (ps.zip (.ref x :: pick is (us ++ ws))) := fun s x hk => by
  have := hb.to s (.ref x :: us) ws hk (by rw [List.length_cons, hl]) hz
  rw [List.cons_append, pick_up] at this
  exact this
theorem re_makeK {m : Nat} {is : List Nat} (hc : ClsAt X.K c C) (M : Mk X.K C f) (F : FnG X.prog X.w X.K X.mg X.base (L2.CX X.prog X.w) k f fd ps (SpO X.K ps.length mo)) (hr : Room (k + 1) X.A) (gd : X.A.guards = some []) (hg : Gl X x) (hm : X.mg x = some (.ref C)) (hb : KwOk X.K fd ps (m + 1) ks (0 :: is.map (· + 1))) (hn : ps.length = n + 1) (tk : Takes X (wX X.K E))
    (hl : PA X (e :: es) (rdL X.K E m cl)) (hkw : PK X kws (rdL X.K E ks.length ck)) (hs : starEach (e :: es) X.env = (false, eval e X.env) :: starEach es X.env) (hpl : (backTo pos (starEach (e :: es) X.env)).any (·.1) = false)
    (hks : kws.map (·.arg) = ks.map some) (hdb : (x == ("__debug__" : Str)) = false) :
    PE X (.Call (.Name x p) (e :: es) kws pos) (rdV X.K E (cMakeK c n is mo cl ck)) := by
  refine ⟨fun pins s σ H Q' I hw => ?_⟩
  obtain ⟨Fz, ρ, Q, re, h, kq⟩ := hw
  refine wpAny_Call_Name_kw (ld_glob I hg hm ?_ hdb)
  refine PySem.W.callWith_KW (h₀ := X.base) I.ok.mod.kin M.kp (kw_all hks) (thn (hl.run pos pins s σ H (fun vs H1 => ∃ F1 ds, Grow Fz H F1 H1 ∧ RepL X.K F1 vs ds ∧ vs.length = m ∧ ck ρ (fun es => mkC c n mo (pick is (ds ++ es)) Q (E.at ρ)) (E.at ρ)) I
    ⟨Fz, ρ, _, re, h, fun vs H1 F1 ds g1 r1 hn q => ⟨F1, ds, g1, r1, hn, q⟩⟩) ?_) (by rw [hpl, kw_none hks]; rfl) hs
  rintro us s1 ⟨vs, H1, I1, rv, F1, ds, g1, r1, hm1, q⟩
  refine thn (hkw.run pos pins s1 σ H1 (fun zs H2 => ∃ F2 dz, Grow F1 H1 F2 H2 ∧ RepL X.K F2 zs dz ∧ zs.length = ks.length ∧ mkC c n mo (pick is (ds ++ dz)) Q (E.at ρ)) I1
    ⟨F1, ρ, _, re.grow g1, q, fun zs H2 F2 dz g2 r2 hn2 q2 => ⟨F2, dz, g2, r2, hn2, q2⟩⟩) ?_
  rintro ws s2 ⟨zs, H2, I2, rz, F2, dz, g2, r2, hn2, q2⟩
  refine ⟨I2.kIn, ?_⟩
  rw [kw_keys hks]
  exact run_makeG (us := us) M F hr gd (passAt tk σ) I2 (vals_pick (rv.append rz) is) (bind_kw hb (by rw [← rv.length]; exact hm1) (by rw [← rz.length]; exact hn2)) (sp_mk hc kq (g1.trans g2) (((r1.mono g2.f).append r2).pick is) hn q2 re.err)
theorem re_makeK0 {is : List Nat} (hc : ClsAt X.K c C) (M : Mk X.K C f) (F : FnG X.prog X.w X.K X.mg X.base (L2.CX X.prog X.w) k f fd ps (SpO X.K ps.length mo)) (hr : Room (k + 1) X.A) (gd : X.A.guards = some []) (hg : Gl X x) (hm : X.mg x = some (.ref C)) (hb : KwOk X.K fd ps (0 + 1) ks (0 :: is.map (· + 1))) (hn : ps.length = n + 1) (tk : Takes X (wX X.K E))
    (hkw : PK X kws (rdL X.K E ks.length ck)) (hks : kws.map (·.arg) = ks.map some) (hdb : (x == ("__debug__" : Str)) = false) :
    PE X (.Call (.Name x p) [] kws pos) (rdV X.K E (cMakeK c n is mo cNil ck)) := by
  refine ⟨fun pins s σ H Q' I hw => ?_⟩
  obtain ⟨Fz, ρ, Q, re, h, kq⟩ := hw
  refine wpAny_Call_Name_kw (ld_glob I hg hm ?_ hdb)
  refine PySem.W.callWith_KW0 (h₀ := X.base) I.ok.mod.kin M.kp (kw_all hks) (thn (hkw.run pos pins s σ H (fun zs H2 => ∃ F2 dz, Grow Fz H F2 H2 ∧ RepL X.K F2 zs dz ∧ zs.length = ks.length ∧ mkC c n mo (pick is ([] ++ dz)) Q (E.at ρ)) I
    ⟨Fz, ρ, _, re, h, fun zs H2 F2 dz g2 r2 hn2 q2 => ⟨F2, dz, g2, r2, hn2, q2⟩⟩) ?_) (by rw [kw_none hks]; rfl)
  rintro ws s2 ⟨zs, H2, I2, rz, F2, dz, g2, r2, hn2, q2⟩
  refine ⟨I2.kIn, ?_⟩
  rw [kw_keys hks]
  exact run_makeG (us := []) M F hr gd (passAt tk σ) I2 (vals_pick rz is) (bind_kw (us := []) hb rfl (by rw [← rz.length]; exact hn2)) (sp_mk hc kq g2 (r2.pick is) hn q2 re.err)
end
def vMake : VR := fun r g e => match e with
  | .Call (.Name x _) es kws _ => if globB g x = true then match g.gl.lookup (mkKey x) with
    | some (.ini c n mo kw) => if c = x then match kws with
      | [] => (lOf r g es).map (cMake c n mo)
      | kws => match kw.find? (fun z => decide (z.1 = es.length ∧ kws.map (·.arg) = z.2.1.map some)), lOf r g es, kOf r g kws with
        | some z, some l, some k => some (cMakeK c n z.2.2 mo l k)
        | _, _, _ => none
      else none
    | _ => none else none
  | _ => none
theorem vMake_ok : VrOk vMake := by
  intro r R X g E e c ok h
  unfold vMake at h
  split at h
  · rename_i x p es kws pos
    split at h
    · rename_i hg
      obtain ⟨q1, q2⟩ := globB_is ok hg
      split at h
      · rename_i c n mo kw hl
        split at h
        · rename_i hcx
          subst hcx
          obtain ⟨C, f, k, fd, ps, hc, hm, M, F, hr, hb, hn, hkw⟩ := ok.gl _ _ hl
          split at h
          · obtain ⟨l, h1, rfl⟩ := map_some h
            obtain ⟨h2, h3⟩ := lOf_ok (E := E) R ok h1
            cases es with
            | nil =>
              simp only [lOf, Option.some.injEq] at h1
              subst h1
              exact re_make0 hc M F hr ok.gd q1 hm hb hn ok.tk q2
            | cons e es =>
              rw [List.all_cons, Bool.and_eq_true] at h3
              exact re_make hc M F hr ok.gd q1 hm hb hn ok.tk h2 q2 (plain_star h3.1) (plains_pl h3.2)
          · split at h
            · rename_i z l kl hz h1 hk1
              cases h
              have hz1 := List.mem_of_find?_eq_some hz
              have hz2 := List.find?_some hz
              have hz2 := of_decide_eq_true hz2
              obtain ⟨h2, h3⟩ := lOf_ok (E := E) R ok h1
              have kk := kOf_ok (E := E) R ok hk1
              have hlen : kws.length = z.2.1.length := by
                have := congrArg List.length hz2.2
                simpa using this
              rw [hlen] at kk
              have hKw := hkw z hz1
              cases es with
              | nil =>
                simp only [lOf, Option.some.injEq] at h1
                subst h1
                have h0 : z.1 = 0 := hz2.1
                rw [h0] at hKw
                exact re_makeK0 hc M F hr ok.gd q1 hm hKw hn ok.tk kk hz2.2 q2
              | cons e es =>
                have hpl := plains_pl (env := X.env) (pos := pos) h3
                rw [List.all_cons, Bool.and_eq_true] at h3
                rw [← hz2.1] at h2
                exact re_makeK hc M F hr ok.gd q1 hm hKw hn ok.tk h2 kk (plain_star h3.1) hpl hz2.2 q2
            · cases h
        · cases h
      · cases h
    · cases h
  · cases h
end DL
/-! e.f with class constants; fields of one's own; isinstance with own classes -/
namespace DL
open PySem L2 PySem.Spec PyProof.Rows

/-! ### e.f -/
def tAttC (X : Cx) (f : Str) (te : TE) : TE := fun σ H Q => te σ H fun x H1 => ∃ (a C dx : Addr) (fs : List (Str × V)), x = .ref a ∧ H1 a = some (.ins C dx fs) ∧ Cls X.K C ∧ ((NoAttr X.K C f ∧ ∃ v, fs.lookup f = some v ∧ Q v H1) ∨
  (∃ (v : V) (u : Value), Con X.K C f v u ∧ fs.lookup f = none ∧ Q v H1) ∨
  ∃ (k : Nat) (p g : Addr) (fd : FuncData) (ps : List Str) (sp : Sp), PropOf X.K C f p g ∧ FnG X.prog X.w X.K X.mg X.base (L2.CX X.prog X.w) k g fd ps sp ∧ Room (k + 1) X.A ∧ Binds X.K fd ps [] ∧ sp [x] H1 Q (fun _ _ _ => False))
theorem pe_attC {X : Cx} {f : Str} {e : Expr} {pos : Pos} {te : TE} (he : PE X e te) (gd : X.A.guards = some []) (hb : attributeBase e f X.env (eval e X.env) = eval e X.env) : PE X (.Attribute e f pos) (tAttC X f te) :=
  ⟨fun pins s σ H Q I h => by
    refine attr_of hb (thn (he.run pins s σ H _ I h) ?_)
    rintro u s1 ⟨x, H1, I1, rx, a, C, dx, fs, rfl, ea, c, h2⟩
    cases rx
    rcases h2 with ⟨n, v, l, q⟩ | ⟨v, u, k, l, q⟩ | ⟨k, p, g, fd, ps, sp, hp, F, hr, hbd, q⟩
    · exact getattr_ok I1 ea c n l fun u' s2 I2 ru => ⟨v, H1, I2, ru, q⟩
    · exact getcon_ok I1 ea c k l fun s2 I2 => ⟨v, H1, I2, k.rel, q⟩
    · exact propG I1 ea c hp F hr gd hbd q⟩
/-- e.f: a property of the class, a constant of it, or a field -/
def attM (gl : List (Str × GV)) (f : Str) (o : D) : M (D × Bool) := fun Q E => match o with
  | .obj c fs => match gl.lookup (clsKey c f) with
    | some (.pr c' f' mm) => (c' = c ∧ f' = f) ∧ callD 1 mm [.obj c fs] Q (fun _ => False)
    | some (.cc c' f' d) => (c' = c ∧ f' = f ∧ fs.lookup f = none) ∧ Q (d, false)
    | _ => (clsF gl c).contains f = true ∧ match fs.lookup f with
      | some d => Q (d, false)
      | none => False
  | _ => False
def cAt2 (gl : List (Str × GV)) (f : Str) (a : CB) : CV := fun ρ => bnd (a ρ) (attM gl f)
theorem re_at2 {X : Cx} {g : Sg} {E : EX} {e : Expr} {f : Str} {xa : CB} {pos : Pos} (ok : SgOk X g E) (ha : PE X e (rdF X.K E xa)) (hb : attributeBase e f X.env (eval e X.env) = eval e X.env) : PE X (.Attribute e f pos) (rdV X.K E (cAt2 g.gl f xa)) :=
  (pe_attC ha ok.gd hb).imp fun σ H Q' ⟨F, ρ, Q, re, h, kq⟩ => ⟨F, ρ, _, re, h, fun v H1 F1 d g1 b1 h1 => by
    unfold attM at h1
    split at h1
    · rename_i c fs
      cases b1 with
      | @obj a _ gs _ oa rf =>
        obtain ⟨C', dx, hc', hi⟩ := oa
        have hi1 := (re.grow g1).fh _ _ hi
        split at h1
        · rename_i c' f' mm el
          obtain ⟨⟨rfl, rfl⟩, h1⟩ := h1
          obtain ⟨C, k, p, gg, fd, ps, hc, hcl, hp, hF, hr, hbd, hn⟩ := ok.gl _ _ el
          have := hc.one hc'
          subst this
          rw [← hn] at h1
          have rr : RepL X.K F1 [V.ref a] [.obj c' fs] := .cons (Rep.obj ⟨C, dx, hc, hi⟩ rf) .nil
          exact ⟨a, C, dx, gs, rfl, hi1, hcl, .inr (.inr ⟨k, p, gg, fd, ps, _, hp, hF, hr, hbd, sp_of (fl := false) kq g1 rr h1 fun _ _ _ _ _ _ _ q => q⟩)⟩
        · rename_i c' f' d' el
          obtain ⟨⟨rfl, rfl, hl⟩, h1⟩ := h1
          obtain ⟨C, v, u, hc, hcl, hk, hrep⟩ := ok.gl _ _ el
          have := hc.one hc'
          subst this
          exact ⟨a, C, dx, gs, rfl, hi1, hcl, .inr (.inl ⟨v, u, hk, rf.none hl, kq v H1 F1 (d', false) g1 (Val.of (hrep F1)) h1⟩)⟩
        · obtain ⟨hf, h1⟩ := h1
          split at h1
          · rename_i d' el
            obtain ⟨C, hc, hm, hcl, hno⟩ := clsF_is ok hf
            have := hc.one hc'
            subst this
            obtain ⟨w, lw, rw'⟩ := rf.look el
            exact ⟨a, C, dx, gs, rfl, hi1, hcl, .inl ⟨hno, w, lw, kq w H1 F1 (d', false) g1 (Val.of rw') h1⟩⟩
          · exact h1.elim
    · exact h1.elim⟩
/-- x.f, x one's own: a field, or a constant of the class -/
def cAtO (gl : List (Str × GV)) (i : Nat) (f : Str) : CV := fun ρ Q E => match (ρ[i]? : Option Cell) with
  | some (.ow (.obj c fs) z) => match gl.lookup (clsKey c f) with
    | some (.cc c' f' d) => (c' = c ∧ f' = f ∧ fs.lookup f = none) ∧ Q (d, false)
    | _ => (clsF gl c).contains f = true ∧ match fs.lookup f with
      | some d => Q (d, false)
      | none => False
  | _ => False
theorem re_atO {X : Cx} {g : Sg} {E : EX} {x f : Str} {i : Nat} {p pos : Pos} (ok : SgOk X g E) (hi : slotOf g x = some i) : PE X (.Attribute (.Name x p) f pos) (rdV X.K E (cAtO g.gl i f)) := by
  obtain ⟨q1, q2, q3, q4⟩ := slotOf_is hi
  refine (pe_attC (re_bvar (E := E) (pos := p) (by rw [ok.N]; exact q1) (by rw [ok.sc]; exact q2) q3 q4) ok.gd rfl).imp fun σ H Q' ⟨F, ρ, Q, re, h, kq⟩ => ?_
  unfold cAtO at h
  split at h
  · rename_i c fs z eρ
    refine ⟨F, ρ, fun d => d = .obj c fs, re, ?_, fun v H1 F1 d g1 b1 ed => ?_⟩
    · unfold bVar
      rw [eρ]
      exact rfl
    · subst ed
      obtain ⟨a, gs, C', dx, rfl, hc', hi1, rf⟩ : ∃ a gs C' dx, v = .ref a ∧ ClsAt X.K c C' ∧ H1 a = some (.ins C' dx gs) ∧ RepF X.K F1 gs fs := by
        rcases b1 with b1 | ⟨p, rfl, gs, ⟨C', dx, hc', hi⟩, rf⟩
        · cases b1 with
          | @obj a _ gs _ oa rf =>
            obtain ⟨C', dx, hc', hi⟩ := oa
            exact ⟨a, gs, C', dx, rfl, hc', g1.fh _ _ hi, rf⟩
        · exact ⟨p, gs, C', dx, rfl, hc', hi, rf⟩
      split at h
      · rename_i c' f' d' el
        obtain ⟨⟨rfl, rfl, hl⟩, h⟩ := h
        obtain ⟨C, v, u, hc, hcl, hk, hrep⟩ := ok.gl _ _ el
        have := hc.one hc'
        subst this
        exact ⟨a, C, dx, gs, rfl, hi1, hcl, .inr (.inl ⟨v, u, hk, rf.none hl, kq v H1 F1 (d', false) g1 (Val.of (hrep F1)) h⟩)⟩
      · obtain ⟨hf, h⟩ := h
        split at h
        · rename_i d' el
          obtain ⟨C, hc, hm, hcl, hno⟩ := clsF_is ok hf
          have := hc.one hc'
          subst this
          obtain ⟨w, lw, rw'⟩ := rf.look el
          exact ⟨a, C, dx, gs, rfl, hi1, hcl, .inl ⟨hno, w, lw, kq w H1 F1 (d', false) g1 (Val.of rw') h⟩⟩
        · exact h.elim
  · exact h.elim
/-- not f(): what stands ahead of a dot -/
def noSupE : Expr → Bool
  | .Call (.Name _ _) [] [] _ => false
  | _ => true
theorem noSup_base {e : Expr} {f : Str} {env : PySem.Env} (h : noSupE e = true) : attributeBase e f env (eval e env) = eval e env := by
  cases e with
  | Call fn es kws p =>
    cases fn with
    | Name x q =>
      cases es with
      | nil =>
        cases kws with
        | nil => cases h
        | cons k ks => rfl
      | cons e es => rfl
    | _ => rfl
  | _ => rfl
def ownNm (g : Sg) : Expr → Option Nat
  | .Name x _ => match slotOf g x with
    | some i => if i ∈ g.own then some i else none
    | none => none
  | _ => none
def vAt2 : VR := fun r g e => match e with
  | .Attribute a f _ => match ownNm g a with
    | some i => some (cAtO g.gl i f)
    | none => if noSupE a = true then (fOf r g a).map (cAt2 g.gl f) else none
  | _ => none
theorem vAt2_ok : VrOk vAt2 := by
  intro r R X g E e c ok h
  unfold vAt2 at h
  split at h
  · rename_i a f pos
    split at h
    · rename_i i ho
      cases h
      unfold ownNm at ho
      split at ho
      · split at ho
        · rename_i j hj
          split at ho
          · cases ho
            exact re_atO ok hj
          · cases ho
        · cases ho
      · cases ho
    · split at h
      · rename_i hp
        obtain ⟨xa, h1, rfl⟩ := map_some h
        exact re_at2 ok (fOf_ok R ok h1) (noSup_base hp)
      · cases h
  · cases h

/-! ### isinstance -/
abbrev TyE := TyN ⊕ Str
def isaKey (c d : Str) : Str := "isa:" ++ c ++ ":" ++ d
def isCls (gl : List (Str × GV)) (c : Str) : Bool := match gl.lookup c with
  | some (.cls _) => true
  | _ => false
def isoB (gl : List (Str × GV)) (d : D) : TyE → Option Bool
  | .inl T => match d with
    | .obj c _ => if (isCls gl c && decide (T ≠ .non)) = true then some false else none
    | d => (tyN d).map (subN · T)
  | .inr e => match d with
    | .obj c _ => if isCls gl c = true then match gl.lookup (isaKey c e) with
      | some (.isa c' e' b) => if c' = c ∧ e' = e then some b else none
      | _ => none else none
    | d => (tyN d).map fun _ => false
def isoL (gl : List (Str × GV)) (d : D) : List TyE → Option Bool
  | [] => some false
  | t :: ts => match isoB gl d t with
    | some true => some true
    | some false => isoL gl d ts
    | none => none
def isoM (gl : List (Str × GV)) (ts : List TyE) (d : D) : M (D × Bool) := fun Q _ => match isoL gl d ts with
  | some b => Q (.bl b, false)
  | none => False
def cIso (gl : List (Str × GV)) (a : CB) (ts : List TyE) : CV := fun ρ => bnd (a ρ) (isoM gl ts)
def ClsE (X : Cx) : TyE → V → Value → Prop
  | .inl T, v, u => v = .ty T.s ∧ u = .type T.s
  | .inr e, v, u => ∃ C, ClsAt X.K e C ∧ PySem.W.kitCls X.K (.type "int") (.ref C) = some false ∧ v = .ref C ∧ u = .ref C
theorem isCls_is {X : Cx} {g : Sg} {E : EX} (ok : SgOk X g E) {c : Str} (h : isCls g.gl c = true) : ∃ C, ClsAt X.K c C ∧ X.mg c = some (.ref C) ∧ ClsX X.K C := by
  unfold isCls at h
  split at h
  · rename_i fl e
    obtain ⟨C, h1, h2, h3, h4⟩ := ok.gl _ _ e
    exact ⟨C, h1, h2, h3⟩
  · cases h
theorem kit_own {K : PySem.W.Frag} {C : Addr} (h : PySem.W.kitCls K (.type "int") (.ref C) = some false) (t : TyN) : PySem.W.kitOne K (.type t.s) (.ref C) = some false := by
  unfold PySem.W.kitOne
  have e : (Value.type t.s == Value.ref C) = false := Bool.eq_false_iff.mpr fun q => by cases beq_iff_eq.mp q
  rw [e, if_neg Bool.false_ne_true]
  have h' : (if ((PySem.W.clsIn K C).isSome && PySem.W.typeIn K (.ref C) == some (.type "type")) = true then PySem.W.subIn K (.type "int") (.ref C) else none) = some false := h
  split at h'
  · rename_i q
    show (if ((PySem.W.clsIn K C).isSome && PySem.W.typeIn K (.ref C) == some (.type "type")) = true then PySem.W.subIn K (.type t.s) (.ref C) else none) = some false
    rw [if_pos q]
    cases t <;> exact rfl
  · cases h'
theorem Bor.obj {X : Cx} {F H : Hp} {v : V} {c : Str} {fs : List (Str × D)} (s : Same F H) (b : Bor X.K F H v (.obj c fs)) : ∃ a gs C dx, v = .ref a ∧ ClsAt X.K c C ∧ H a = some (.ins C dx gs) ∧ RepF X.K F gs fs := by
  rcases b with b | ⟨p, rfl, gs, ⟨C', dx, hc', hi⟩, rf⟩
  · cases b with
    | @obj a _ gs _ oa rf =>
      obtain ⟨C', dx, hc', hi⟩ := oa
      exact ⟨a, gs, C', dx, rfl, hc', s _ _ hi, rf⟩
  · exact ⟨p, gs, C', dx, rfl, hc', hi, rf⟩
theorem Bor.sm {K : PySem.W.Frag} {F H H' : Hp} {v : V} {d : D} (s : Same H H') (b : Bor K F H v d) : Bor K F H' v d := by
  rcases b with b | ⟨p, rfl, o⟩
  · exact .inl b
  · refine .inr ⟨p, rfl, ?_⟩
    cases d with
    | lst ds => obtain ⟨vs, h, r⟩ := o; exact ⟨vs, s _ _ h, r⟩
    | dct kvs => obtain ⟨ks, h, r⟩ := o; exact ⟨ks, s _ _ h, r⟩
    | obj c fs => obtain ⟨gs, h, r⟩ := o; exact ⟨gs, h.mono s, r⟩
    | _ => exact o.elim
theorem tyX_obj {X : Cx} {g : Sg} {E : EX} (ok : SgOk X g E) {F H : Hp} {v : V} {c : Str} {fs : List (Str × D)} (s : Same F H) (b : Bor X.K F H v (.obj c fs)) (h : isCls g.gl c = true) : ∃ C, ClsAt X.K c C ∧ ClsX X.K C ∧ TyX X.K H v (.ref C) := by
  obtain ⟨C, hc, _, hx⟩ := isCls_is ok h
  obtain ⟨a, gs, C', dx, rfl, hc', hi, rf⟩ := b.obj s
  have := hc.one hc'
  subst this
  exact ⟨C, hc, hx, .base (.ins hi hx.cl hx.ca hx.cn hx.ct hx.cm)⟩
theorem isoB_inl {gl : List (Str × GV)} {d : D} {T : TyN} {r : Bool} (h : isoB gl d (.inl T) = some r) : (∃ c fs, d = .obj c fs ∧ isCls gl c = true ∧ T ≠ .non ∧ r = false) ∨ ∃ t, tyN d = some t ∧ r = subN t T := by
  unfold isoB at h
  cases d with
  | obj c fs =>
    dsimp only at h
    split at h
    · rename_i q
      rw [Bool.and_eq_true, decide_eq_true_eq] at q
      cases h
      exact .inl ⟨c, fs, rfl, q.1, q.2, rfl⟩
    · cases h
  | _ =>
    dsimp only at h
    obtain ⟨t, e, q⟩ := map_some h
    exact .inr ⟨t, e, q.symm⟩
theorem isoB_inr {gl : List (Str × GV)} {d : D} {T : Str} {r : Bool} (h : isoB gl d (.inr T) = some r) : (∃ c fs, d = .obj c fs ∧ isCls gl c = true ∧ gl.lookup (isaKey c T) = some (.isa c T r)) ∨ ∃ t, tyN d = some t ∧ r = false := by
  unfold isoB at h
  cases d with
  | obj c fs =>
    dsimp only at h
    split at h
    · rename_i q
      split at h
      · rename_i c' e' b el
        split at h
        · rename_i q2
          obtain ⟨rfl, rfl⟩ := q2
          cases h
          exact .inl ⟨_, fs, rfl, q, el⟩
        · cases h
      · cases h
    · cases h
  | _ =>
    dsimp only at h
    obtain ⟨t, e, q⟩ := map_some h
    exact .inr ⟨t, e, q.symm⟩
theorem isoB_cases {gl : List (Str × GV)} {d : D} {t : TyE} {r : Bool} (h : isoB gl d t = some r) : (∃ c fs, d = .obj c fs ∧ isCls gl c = true) ∨ ∃ s, tyN d = some s := by
  cases t with
  | inl T =>
    rcases isoB_inl h with ⟨c, fs, e, q, _⟩ | ⟨s, e, _⟩
    · exact .inl ⟨c, fs, e, q⟩
    · exact .inr ⟨s, e⟩
  | inr T =>
    rcases isoB_inr h with ⟨c, fs, e, q, _⟩ | ⟨s, e, _⟩
    · exact .inl ⟨c, fs, e, q⟩
    · exact .inr ⟨s, e⟩
theorem iso_kit {X : Cx} {g : Sg} {E : EX} (ok : SgOk X g E) {F H : Hp} {v : V} {d : D} {t0 : TyE} {r0 : Bool} (s : Same F H) (b : Bor X.K F H v d) (h0 : isoB g.gl d t0 = some r0) :
    ∃ T, (∀ H', Same H H' → TyX X.K H' v T) ∧ (∀ (t : TyE) (r : Bool) (x : V) (u : Value), ClsE X t x u → isoB g.gl d t = some r → PySem.W.kitOne X.K T u = some r) ∧ ((∃ c fs C, d = .obj c fs ∧ ClsAt X.K c C ∧ T = .ref C) ∨ ∃ n, tyN d = some n ∧ T = .type n.s) := by
  rcases isoB_cases h0 with ⟨c, fs, rfl, q⟩ | ⟨n, hn⟩
  · obtain ⟨C, hc, hx, ty⟩ := tyX_obj ok s b q
    obtain ⟨a, gs, C', dx, rfl, hc', hi, rf⟩ := b.obj s
    have := hc.one hc'
    subst this
    refine ⟨.ref C, fun H' g' => .base (.ins (g' _ _ hi) hx.cl hx.ca hx.cn hx.ct hx.cm), fun t r x u ce h => ?_, .inl ⟨c, fs, C, rfl, hc, rfl⟩⟩
    cases t with
    | inl T =>
      obtain ⟨rfl, rfl⟩ := ce
      rcases isoB_inl h with ⟨_, _, _, _, hT, rfl⟩ | ⟨n, e, _⟩
      · exact hx.no _ (by cases T <;> first | exact absurd rfl hT | decide)
      · cases e
    | inr T =>
      obtain ⟨Da, hd, _, rfl, rfl⟩ := ce
      rcases isoB_inr h with ⟨_, _, e, _, el⟩ | ⟨n, e, _⟩
      · cases e
        obtain ⟨C2, D2, k1, k2, k3, k4⟩ := ok.gl _ _ el
        have := k1.one hc
        subst this
        have := k2.one hd
        subst this
        exact k4
      · cases e
  · refine ⟨.type n.s, fun H' g' => tyX_of (F := F) (s.trans g') (b.sm g') hn, fun t r x u ce h => ?_, .inr ⟨n, hn, rfl⟩⟩
    cases t with
    | inl T =>
      obtain ⟨rfl, rfl⟩ := ce
      rcases isoB_inl h with ⟨_, _, rfl, _, _, _⟩ | ⟨n', e, rfl⟩
      · cases hn
      · rw [hn] at e; cases e; exact kit_ty (kit_sub n T)
    | inr T =>
      obtain ⟨Da, hd, hk, rfl, rfl⟩ := ce
      rcases isoB_inr h with ⟨_, _, rfl, _, _⟩ | ⟨n', e, rfl⟩
      · cases hn
      · exact kit_own hk n
inductive ClsL (X : Cx) : List TyE → List V → List Value → Prop
  | nil : ClsL X [] [] []
  | cons {t : TyE} {x : V} {u : Value} {ts : List TyE} {xs : List V} {us : List Value} : ClsE X t x u → ClsL X ts xs us → ClsL X (t :: ts) (x :: xs) (u :: us)
theorem ClsE.v {X : Cx} {t : TyE} {x : V} {u : Value} (h : ClsE X t x u) : ClsV x u := by
  cases t with
  | inl T => obtain ⟨rfl, rfl⟩ := h; exact .ty _
  | inr e => obtain ⟨C, _, _, rfl, rfl⟩ := h; exact .own _
theorem ClsL.paired {X : Cx} : ∀ {ts : List TyE} {xs : List V} {us : List Value}, ClsL X ts xs us → Paired ClsV xs us
  | _, _, _, .nil => .nil
  | _, _, _, .cons a b => .cons a.v b.paired
theorem ClsL.length {X : Cx} : ∀ {ts : List TyE} {xs : List V} {us : List Value}, ClsL X ts xs us → xs.length = ts.length
  | _, _, _, .nil => rfl
  | _, _, _, .cons a b => by simp [b.length]
theorem iso_any {X : Cx} {gl : List (Str × GV)} {d : D} {T : Value} (k : ∀ (t : TyE) (r : Bool) (x : V) (u : Value), ClsE X t x u → isoB gl d t = some r → PySem.W.kitOne X.K T u = some r) : ∀ {ts : List TyE} {xs : List V} {us : List Value} {r : Bool}, ClsL X ts xs us → isoL gl d ts = some r → PySem.W.kitAny X.K T us = some r
  | _, _, _, r, .nil, h => by cases h; rfl
  | _, _, _, r, .cons f1 f2, h => by
    unfold isoL at h
    split at h
    · rename_i q
      cases h
      exact kitAny_cons (k _ _ _ _ f1 q) (fun e => by cases e) fun _ => rfl
    · rename_i q
      exact kitAny_cons (k _ _ _ _ f1 q) (fun _ => iso_any k f2 h) fun e => by cases e
    · cases h
def tyO (g : Sg) (x : Str) : Option TyE := if globB g x = true then match g.gl.lookup x with
  | some (.ty T _) => (clsN T).map .inl
  | some (.cls _) => some (.inr x)
  | _ => none else none
def tysO (g : Sg) : List Expr → Option (List TyE)
  | [] => some []
  | .Name x _ :: es => match tyO g x, tysO g es with
    | some t, some ts => some (t :: ts)
    | _, _ => none
  | _ :: _ => none
section
variable {X : Cx} {g : Sg} {E : EX}
theorem tyO_ok (ok : SgOk X g E) {x : Str} {t : TyE} {p : Pos} (h : tyO g x = some t) : ∃ v u, ClsE X t v u ∧ PE X (.Name x p) (tC v) := by
  unfold tyO at h
  split at h
  · rename_i hg
    obtain ⟨q1, q2⟩ := globB_is ok hg
    split at h
    · rename_i T m hl
      obtain ⟨hm, hv, hn, _⟩ := ok.gl _ _ hl
      obtain ⟨n, e, rfl⟩ := map_some h
      refine ⟨.ty n.s, .type n.s, ⟨rfl, rfl⟩, ?_⟩
      rw [clsN_is e]
      exact pe_bltn q1 hm hv rfl hn q2
    · rename_i fl hl
      cases h
      obtain ⟨C, h1, h2, h3, _⟩ := ok.gl _ _ hl
      exact ⟨.ref C, .ref C, ⟨C, h1, h3.kc, rfl, rfl⟩, pe_glob q1 h2 rfl q2⟩
    · cases h
  · cases h
theorem tysO_ok (ok : SgOk X g E) : ∀ {es : List Expr} {ts : List TyE}, tysO g es = some ts → ∃ vs us, ClsL X ts vs us ∧ PA X es (fun σ H Q => Q vs H)
  | [], _, h => by cases h; exact ⟨[], [], .nil, pa_nil⟩
  | .Name x p :: es, _, h => by
    unfold tysO at h
    split at h
    · rename_i t ts h1 h2
      cases h
      obtain ⟨v, u, c, hv⟩ := tyO_ok (p := p) ok h1
      obtain ⟨vs, us, cs, hs⟩ := tysO_ok ok h2
      exact ⟨v :: vs, u :: us, .cons c cs, (pa_cons hv hs rfl).imp fun σ H Q q => q⟩
    · cases h
theorem isoM_is {gl : List (Str × GV)} {ts : List TyE} {d : D} {Q : D × Bool → Prop} {ED : Xn → Prop} (h : isoM gl ts d Q ED) : ∃ b, isoL gl d ts = some b ∧ Q (.bl b, false) := by
  unfold isoM at h
  split at h
  · exact ⟨_, by assumption, h⟩
  · exact h.elim
theorem isoL_some {gl : List (Str × GV)} {t : TyE} {ts : List TyE} {d : D} {b : Bool} (h : isoL gl d (t :: ts) = some b) : ∃ r, isoB gl d t = some r := by
  unfold isoL at h
  split at h
  · exact ⟨_, by assumption⟩
  · exact ⟨_, by assumption⟩
  · cases h
theorem re_iso {a : Expr} {xa : CB} {x : Str} {p p2 pos : Pos} {t : TyE} (ok : SgOk X g E) (hg : Gl X "isinstance") (hm : X.mg "isinstance" = none) (ha : PE X a (rdB X.K E xa)) (hpl : plainE a = true) (ht : tyO g x = some t) :
    PE X (.Call (.Name "isinstance" p) [a, .Name x p2] [] pos) (rdV X.K E (cIso g.gl xa [t])) := by
  obtain ⟨cv, cu, ce, hc⟩ := tyO_ok (p := p2) ok ht
  refine (pe_callB call_isi hg hm PyProof.Rows.boot_isinstance (pa_cons ha (pa_cons hc pa_nil rfl) (plain_star hpl)) (by decide) (by decide) (plain_star hpl) rfl).imp fun σ H Q' ⟨F, ρ, Q, re, h, k⟩ => ?_
  refine ⟨F, ρ, _, re, h, fun v H1 F1 d g1 b1 q => ?_⟩
  obtain ⟨b, hb, q⟩ := isoM_is q
  obtain ⟨r, hr⟩ := isoL_some hb
  have e : r = b := by
    unfold isoL at hb
    rw [hr] at hb
    cases r with
    | true => cases hb; rfl
    | false => cases hb; rfl
  subst e
  obtain ⟨T, ty, kk, _⟩ := iso_kit ok g1.fh b1 hr
  exact ⟨v, cv, T, cu, r, rfl, ce.v, ty H1 (Same.refl H1), kk _ _ _ _ ce hr, k _ H1 F1 (.bl r, false) g1 (Val.of (.bl _)) q⟩
theorem re_isoT {a : Expr} {xa : CB} {es : List Expr} {j : Nat} {p p2 pos : Pos} {t : TyE} {ts : List TyE} (ok : SgOk X g E) (hg : Gl X "isinstance") (hm : X.mg "isinstance" = none) (ha : PE X a (rdB X.K E xa)) (hpl : plainE a = true) (ht : tysO g es = some (t :: ts)) (hl : (t :: ts).length ≤ 30) :
    PE X (.Call (.Name "isinstance" p) [a, .Tuple es j p2] [] pos) (rdV X.K E (cIso g.gl xa (t :: ts))) := by
  obtain ⟨cv, cu, ce, hc⟩ := tysO_ok ok ht
  refine (pe_callB call_isiT hg hm PyProof.Rows.boot_isinstance (pa_cons ha (pa_cons (pe_tup hc) pa_nil rfl) (plain_star hpl)) (by decide) (by decide) (plain_star hpl) rfl).imp fun σ H Q' ⟨F, ρ, Q, re, h, k⟩ => ?_
  refine ⟨F, ρ, _, re, h, fun v H1 F1 d g1 b1 q => ⟨?_, fun T hT => ?_⟩⟩
  · rw [ce.length]; exact Nat.le_trans hl (by decide)
  · obtain ⟨b, hb, q⟩ := isoM_is q
    obtain ⟨r, hr⟩ := isoL_some hb
    obtain ⟨Ty, ty, kk, _⟩ := iso_kit ok g1.fh b1 hr
    have g2 := Grow.own g1.fh hT (.tup cv)
    exact ⟨v, T, cv, Ty, cu, b, rfl, upd_same, ce.paired, ty _ g2.h, iso_any kk ce hb, k _ _ F1 (.bl b, false) (g1.trans g2) (Val.of (.bl _)) q⟩
end
def vIso : VR := fun r g e => match e with
  | .Call (.Name x _) [a, .Name y _] [] _ => if (spB g x "isinstance" && plainE a) = true then match bOf r g a, tyO g y with
    | some c, some (.inr t) => some (cIso g.gl c [.inr t])
    | _, _ => none else none
  | .Call (.Name x _) [a, .Tuple es _ _] [] _ => if (spB g x "isinstance" && plainE a) = true then match bOf r g a, tysO g es with
    | some c, some (t :: ts) => if (t :: ts).length ≤ 30 then some (cIso g.gl c (t :: ts)) else none
    | _, _ => none else none
  | _ => none
theorem vIso_ok : VrOk vIso := by
  intro r R X g E e c ok h
  unfold vIso at h
  split at h
  · split at h
    · rename_i hs
      rw [Bool.and_eq_true] at hs
      obtain ⟨rfl, q1, q2⟩ := spB_is ok hs.1
      split at h
      · cases h; exact re_iso ok q1 q2 (bOf_ok R ok ‹_›) hs.2 ‹_›
      · cases h
    · cases h
  · split at h
    · rename_i hs
      rw [Bool.and_eq_true] at hs
      obtain ⟨rfl, q1, q2⟩ := spB_is ok hs.1
      split at h
      · rename_i c t ts hb ht
        split at h
        · rename_i hl
          cases h; exact re_isoT ok q1 q2 (bOf_ok R ok hb) hs.2 ht hl
        · cases h
      · cases h
    · cases h
  · cases h
end DL
/-! static methods; methods with keywords -/
namespace DL
open PySem L2 PySem.Spec PyProof.Rows

/-- how o.m(.., k = ..) goes -/
def mcallK (o : Expr) (m : Str) (ap : Pos) (es : List Expr) (kws : List Keyword) (pos : Pos) (pl : Sem Bool) (env : PySem.Env) : Sem Value := do let ov ← eval o env; standAt ap.atName; let (f, first) ← holding [ov] (getMethod ov m pl); callWith pos f first (backTo pos (starEach es env)) (backToKw pos (keywordEach kws env))
theorem meth_evalK {o : Expr} {m : Str} {ap pos : Pos} {es : List Expr} {kws : List Keyword} {ks : List Str} {env : PySem.Env} (h : noSupE o = true) (hp : es.all plainE = true) (hk : kws.map (·.arg) = ks.map some) (hn : es.length + kws.length < 29) (hl : (ap.endLine == pos.line) = true) :
    ∃ pl, eval (.Call (.Attribute o m ap) es kws pos) env = mcallK o m ap es kws pos pl env := by
  refine ⟨(do return (← importBound o env).getD true), ?_⟩
  have few : methodCallForm (es.length + kws.length) (backTo pos (starEach es env)) (backToKw pos (keywordEach kws env)) = true := by
    have a := plains_pl (env := env) (pos := pos) hp
    have b : (backTo pos (starEach es env)).all (fun x => !x.1) = true := by
      rw [List.all_eq_true]
      intro x hx
      rw [List.any_eq_false] at a
      simpa using a x hx
    show ((backTo pos (starEach es env)).all (fun x => !x.1) && (backToKw pos (keywordEach kws env)).all (·.1.isSome) && decide (es.length + kws.length + (if (backToKw pos (keywordEach kws env)).isEmpty = true then 0 else 1) < 30)) = true
    rw [b, kw_all hk, Bool.true_and, Bool.true_and]
    refine decide_eq_true ?_
    split <;> omega
  show (attributeBase o m env (eval o env) >>= fun ov => standAt ap.atName >>= fun _ => methodCall o m ap pos env ov (es.length + kws.length) (backTo pos (starEach es env)) (backToKw pos (keywordEach kws env))) = _
  rw [noSup_base h]
  unfold methodCall calleeOf methodCallPos
  rw [few, hl]
  rfl
section
variable {X : Cx} {E : EX} {es : List Expr} {kws : List Keyword} {ks : List Str} {cl ck : CL} {pos : Pos} {f : Value} {first : List Value} {pins : List (Addr × Obj)} {σ : L2.St} {H F : Hp} {s : Shared} {ρ : Env} {Q : Value → Shared → Prop}
/-- a call's values -/
theorem cw_args (hnil : es = [] → cl = cNil) (I : Inv X pins σ H s) (hk : PySem.W.keepIn X.K f = true) (hp : es.all plainE = true) (hks : kws.map (·.arg) = ks.map some) (hl : PA X es (rdL X.K E es.length cl)) (hkw : PK X kws (rdL X.K E ks.length ck)) (re : REnv X.K E.B E.F0 F H σ ρ) {P : List D → Prop}
    (h : cl ρ (fun ds => ck ρ (fun dz => P (ds ++ dz)) (E.at ρ)) (E.at ρ))
    (fin : ∀ us ws vs zs ds dz H2 F2 s2, Inv X pins σ H2 s2 → Vals vs us → Vals zs ws → RepL X.K F2 vs ds → RepL X.K F2 zs dz → Grow F H F2 H2 → us.length = es.length → ws.length = ks.length → P (ds ++ dz) → wpAny (model X.prog X.w) X.A (call f (first ++ us) (ks.zip ws)) Q X.xe s2) :
    wpAny (model X.prog X.w) X.A (callWith pos f first (backTo pos (starEach es X.env)) (backToKw pos (keywordEach kws X.env))) Q X.xe s := by
  have kz : ∀ {H1 F1 : Hp} {s1 : Shared} {vs : List V} {us : List Value} {ds : List D}, Inv X pins σ H1 s1 → Vals vs us → RepL X.K F1 vs ds → Grow F H F1 H1 → us.length = es.length → ck ρ (fun dz => P (ds ++ dz)) (E.at ρ) →
      wpAny (model X.prog X.w) X.A (evalAll ((backToKw pos (keywordEach kws X.env)).map (·.2))) (fun k s₂ => X.K.In s₂.heap ∧ wpAny (model X.prog X.w) X.A (call f (first ++ us) (((backToKw pos (keywordEach kws X.env)).filterMap (·.1)).zip k)) Q X.xe s₂) X.xe s1 := fun {H1 F1 s1 vs us ds} I1 rv r1 g1 hl1 q => by
    refine thn (hkw.run pos pins s1 σ H1 (fun zs H2 => ∃ F2 dz, Grow F1 H1 F2 H2 ∧ RepL X.K F2 zs dz ∧ zs.length = ks.length ∧ P (ds ++ dz)) I1 ⟨F1, ρ, _, re.grow g1, q, fun zs H2 F2 dz g2 r2 hn2 q2 => ⟨F2, dz, g2, r2, hn2, q2⟩⟩) ?_
    rintro ws s2 ⟨zs, H2, I2, rz, F2, dz, g2, r2, hn2, q2⟩
    refine ⟨I2.kIn, ?_⟩
    rw [kw_keys hks]
    exact fin us ws vs zs ds dz H2 F2 s2 I2 rv rz (r1.mono g2.f) r2 (g1.trans g2) hl1 (by rw [← rz.length]; exact hn2) q2
  have hpl := plains_pl (env := X.env) (pos := pos) hp
  cases es with
  | nil =>
    have hn := hnil rfl
    subst hn
    exact PySem.W.callWith_KW0 (h₀ := X.base) I.ok.mod.kin hk (kw_all hks) (kz (us := []) (vs := []) (ds := []) I .nil .nil re.gr rfl h) (by rw [kw_none hks]; rfl)
  | cons e es =>
    have hs := hp
    rw [List.all_cons, Bool.and_eq_true] at hs
    refine PySem.W.callWith_KW (h₀ := X.base) I.ok.mod.kin hk (kw_all hks) (thn (hl.run pos pins s σ H (fun vs H1 => ∃ F1 ds, Grow F H F1 H1 ∧ RepL X.K F1 vs ds ∧ vs.length = (e :: es).length ∧ ck ρ (fun dz => P (ds ++ dz)) (E.at ρ)) I
      ⟨F, ρ, _, re, h, fun vs H1 F1 ds g1 r1 hn q => ⟨F1, ds, g1, r1, hn, q⟩⟩) ?_) (by rw [hpl, kw_none hks]; rfl) (plain_star hs.1)
    rintro us s1 ⟨vs, H1, I1, rv, F1, ds, g1, r1, hn, q⟩
    exact kz I1 rv r1 g1 (by rw [← rv.length]; exact hn) q
end

/-! ### C.m(..), m a static method -/
section
variable {X : Cx} {pins : List (Addr × Obj)} {σ : L2.St} {H : Hp} {s : Shared} {C p g : Addr} {mc : Value} {m : Str} {A : Around} {E : Value → Shared → Prop}
theorem getstm_ok {pl : Sem Bool} {Q : Value × List Value → Shared → Prop} (I : Inv X pins σ H s) (k : StM X.K C mc m p g) (h : ∀ s', Inv X pins σ H s' → Q (.ref g, []) s') : wpAny (model X.prog X.w) A (getMethod (.ref C) m pl) Q E s := by
  obtain ⟨rest, hp⟩ := k.rc
  refine PySem.W.method_cls I.kIn k.rd.ga ?_
  refine PySem.W.cls_bind I.kIn k.rd.rd k.at_ ?_
  refine wpAny_call (PySem.W.sm_get (s := { s with toks := s.toks + 1 }) I.kIn hp (PySem.W.handed_on rfl ?_))
  exact h _ (I.tok (s.toks + 1))
end
/-- a call's values in the order of the parameters -/
def sel {α : Type} (o : Option (List Nat)) (xs : List α) : List α := match o with
  | none => xs
  | some is => pick is xs
theorem RepL.sel {K : PySem.W.Frag} {F : Hp} {vs : List V} {ds : List D} (r : RepL K F vs ds) (o : Option (List Nat)) : RepL K F (sel o vs) (sel o ds) := by
  cases o with
  | none => exact r
  | some is => exact r.pick is
theorem vals_sel {vs : List V} {us : List Value} (r : Vals vs us) (o : Option (List Nat)) : Vals (sel o vs) (sel o us) := by
  cases o with
  | none => exact r
  | some is => exact vals_pick r is
/-- how a call of m places and the keywords ks binds; first: what stands ahead -/
def BindOk (K : PySem.W.Frag) (fd : FuncData) (ps : List Str) (m : Nat) (ks : List Str) (o : Option (List Nat)) : Prop :=
  ∀ (s : Shared) (us ws : List Value), K.In s.heap → us.length = m → ws.length = ks.length → BindsTo s fd ⟨us, ks.zip ws⟩ (ps.zip (sel o (us ++ ws)))
def BindOk1 (K : PySem.W.Frag) (fd : FuncData) (ps : List Str) (m : Nat) (ks : List Str) (o : Option (List Nat)) : Prop :=
  ∀ (s : Shared) (x : Value) (us ws : List Value), K.In s.heap → us.length = m → ws.length = ks.length → BindsTo s fd ⟨x :: us, ks.zip ws⟩ (ps.zip (x :: sel o (us ++ ws)))
section
variable {K : PySem.W.Frag} {fd : FuncData} {ps ks : List Str} {m n : Nat} {is : List Nat}
theorem BindOk.pos (hb : Binds K fd ps []) (h : ps.length = n) : BindOk K fd ps n [] none := fun s us ws hk h1 h2 => by
  have := List.eq_nil_of_length_eq_zero h2
  subst this
  have := hb s us hk (by rw [List.append_nil, h1, h])
  show BindsTo s fd ⟨us, []⟩ (ps.zip (us ++ []))
  exact this
theorem BindOk.kw (hb : KwOk K fd ps m ks is) : BindOk K fd ps m ks (some is) := fun s us ws hk h1 h2 => hb.to s us ws hk h1 h2
theorem BindOk1.pos (hb : Binds K fd ps []) (h : ps.length = n + 1) : BindOk1 K fd ps n [] none := fun s x us ws hk h1 h2 => by
  have := List.eq_nil_of_length_eq_zero h2
  subst this
  have := hb s (x :: us) hk (by rw [List.append_nil, List.length_cons, h1, h])
  show BindsTo s fd ⟨x :: us, []⟩ (ps.zip (x :: us ++ []))
  exact this
theorem BindOk1.kw (hb : KwOk K fd ps (m + 1) ks (0 :: is.map (· + 1))) : BindOk1 K fd ps m ks (some is) := fun s x us ws hk h1 h2 => by
  have := hb.to s (x :: us) ws hk (by rw [List.length_cons, h1]) h2
  rw [List.cons_append, pick_up] at this
  exact this
end
section
variable {X : Cx} {E : EX} {g : Sg} {es : List Expr} {kws : List Keyword} {ks : List Str} {cl ck : CL} {pos p ap : Pos} {x m : Str} {n k : Nat} {mm : List D → M D} {C pa f : Addr} {mc : Value} {fd : FuncData} {ps : List Str} {o : Option (List Nat)}
def cStmG (n : Nat) (mm : List D → M D) (o : Option (List Nat)) (l k : CL) : CV := fun ρ => bnd (l ρ) fun ds => bnd (k ρ) fun dz => callD n mm (sel o (ds ++ dz))
theorem re_stm (hg : Gl X x) (hdb : (x == ("__debug__" : Str)) = false) (hm : X.mg x = some (.ref C)) (S : StM X.K C mc m pa f) (F : FnG X.prog X.w X.K X.mg X.base (L2.CX X.prog X.w) k f fd ps (SpM X.K ps.length mm)) (hr : Room k X.A) (gd : X.A.guards = some []) (hb : BindOk X.K fd ps es.length ks o) (hn : ps.length = n) (tk : Takes X (wX X.K E))
    (hnil : es = [] → cl = cNil) (hp : es.all plainE = true) (hks : kws.map (·.arg) = ks.map some) (hl : PA X es (rdL X.K E es.length cl)) (hkw : PK X kws (rdL X.K E ks.length ck)) (hlen : es.length + kws.length < 29) (hline : (ap.endLine == pos.line) = true) :
    PE X (.Call (.Attribute (.Name x p) m ap) es kws pos) (rdV X.K E (cStmG n mm o cl ck)) := by
  subst hn
  obtain ⟨pl, he⟩ := meth_evalK (o := .Name x p) (m := m) (env := X.env) rfl hp hks hlen hline
  refine ⟨fun pins s σ H Q' I hw => ?_⟩
  obtain ⟨Fz, ρ, Q, re, h, kq⟩ := hw
  refine PySem.W.methodCall_KW (pl := pl) (ld_glob I hg hm ?_ hdb) he
  refine getstm_ok I S fun s1 I1 => ?_
  refine cw_args (first := []) hnil I1 S.kp hp hks hl hkw re (P := fun xs => callD ps.length mm (sel o xs) Q (E.at ρ)) h ?_
  intro us ws vs zs ds dz H2 F2 s2 I2 rv rz r1 r2 g2 l1 l2 q
  exact runG (args := ⟨us, ks.zip ws⟩) (ws := []) F hr gd (hb s2 us ws I2.kIn l1 l2) (passAt tk σ) I2 (vals_sel (rv.append rz) o) (sp_of (fl := false) kq g2 ((r1.append r2).sel o) q re.err)
end
end DL
/-! rules: static methods, methods of what a call gives, methods with keywords -/
namespace DL
open PySem L2 PySem.Spec PyProof.Rows

def kwFind (kw : List (Nat × List Str × List Nat)) (n : Nat) (kws : List Keyword) : Option (Nat × List Str × List Nat) := kw.find? fun z => decide (z.1 = n ∧ kws.map (·.arg) = z.2.1.map some)
theorem kwFind_is {kw : List (Nat × List Str × List Nat)} {n : Nat} {kws : List Keyword} {z : Nat × List Str × List Nat} (h : kwFind kw n kws = some z) : z ∈ kw ∧ z.1 = n ∧ kws.map (·.arg) = z.2.1.map some := by
  have h1 := List.mem_of_find?_eq_some h
  have h2 := List.find?_some h
  have h2 := of_decide_eq_true h2
  exact ⟨h1, h2.1, h2.2⟩
theorem kw_len {kws : List Keyword} {ks : List Str} (h : kws.map (·.arg) = ks.map some) : kws.length = ks.length := by
  have := congrArg List.length h
  simpa using this
def stmKey (c m : Str) : Str := "static:" ++ c ++ "." ++ m
def vStm : VR := fun r g e => match e with
  | .Call (.Attribute (.Name x _) m ap) es kws pos => if (globB g x && (decide (es.length + kws.length < 29) && (ap.endLine == pos.line))) = true then match g.gl.lookup (stmKey x m) with
    | some (.stm c m' n mm kw) => if c = x ∧ m' = m then match kws with
      | [] => if es.length = n then (lOf r g es).map (cCall n mm) else none
      | kws => match kwFind kw es.length kws, lOf r g es, kOf r g kws with
        | some z, some l, some k => some (cCallK n z.2.2 mm l k)
        | _, _, _ => none
      else none
    | _ => none else none
  | _ => none
theorem rd_stm0 {K : PySem.W.Frag} {E : EX} {n : Nat} {mm : List D → M D} {cl : CL} : (cStmG n mm none cl cNil) = cCall n mm cl := by
  funext ρ Q E
  show cl ρ (fun ds => callD n mm (ds ++ []) Q E) E = cl ρ (fun ds => callD n mm ds Q E) E
  simp only [List.append_nil]
theorem lOf_nil {r : Rec} {g : Sg} {es : List Expr} {l : CL} (h : lOf r g es = some l) : es = [] → l = cNil := fun e => by
  subst e
  simp only [lOf, Option.some.injEq] at h
  exact h.symm
theorem vStm_ok : VrOk vStm := by
  intro r R X g E e c ok h
  unfold vStm at h
  split at h
  · rename_i x p m ap es kws pos
    split at h
    · rename_i hb0
      rw [Bool.and_eq_true, Bool.and_eq_true, decide_eq_true_eq] at hb0
      obtain ⟨hg, hlen, hline⟩ := hb0
      obtain ⟨q1, q2⟩ := globB_is ok hg
      split at h
      · rename_i c' m' n mm kw el
        split at h
        · rename_i hcm
          obtain ⟨rfl, rfl⟩ := hcm
          obtain ⟨C, pa, f, mc, k, fd, ps, hc, hm, S, F, hr, hb, hn, hkw⟩ := ok.gl _ _ el
          split at h
          · split at h
            · rename_i hen
              obtain ⟨l, h1, rfl⟩ := map_some h
              obtain ⟨h2, h3⟩ := lOf_ok (E := E) R ok h1
              rw [← rd_stm0 (K := X.K) (E := E)]
              exact re_stm (ks := []) q1 q2 hm S F hr ok.gd (hen ▸ BindOk.pos hb hn) hn ok.tk (lOf_nil h1) h3 rfl h2 rk_nil hlen hline
            · cases h
          · split at h
            · rename_i z l kl hz h1 hk1
              cases h
              obtain ⟨z1, z2, z3⟩ := kwFind_is hz
              obtain ⟨h2, h3⟩ := lOf_ok (E := E) R ok h1
              have kk := kOf_ok (E := E) R ok hk1
              rw [kw_len z3] at kk
              exact re_stm q1 q2 hm S F hr ok.gd (z2 ▸ BindOk.kw (hkw z z1)) hn ok.tk (lOf_nil h1) h3 z3 h2 kk hlen hline
            · cases h
        · cases h
      · cases h
    · cases h
  · cases h
/-! ### o.m(..), o any text -/
def vMeth2 : VR := fun r g e => match e with
  | .Call (.Attribute o m ap) es [] pos => if (noSupE o && (decide (es.length < 29) && (ap.endLine == pos.line))) = true then match fOf r g o, lOf r g es with
    | some a, some l => some (cMeth g.gl m a l)
    | _, _ => none else none
  | _ => none
theorem vMeth2_ok : VrOk vMeth2 := by
  intro r R X g E e c ok h
  unfold vMeth2 at h
  split at h
  · rename_i o m ap es pos
    split at h
    · rename_i hp
      rw [Bool.and_eq_true, Bool.and_eq_true, decide_eq_true_eq] at hp
      obtain ⟨h1, h2, h3⟩ := hp
      split at h
      · rename_i a l ha hl
        cases h
        have ho := fOf_ok (E := E) R ok ha
        obtain ⟨q1, q2⟩ := lOf_ok (E := E) R ok hl
        obtain ⟨pl, he⟩ := meth_evalK (m := m) (kws := []) (ks := []) (env := X.env) h1 q2 rfl h2 h3
        cases es with
        | nil =>
          simp only [lOf, Option.some.injEq] at hl
          subst hl
          exact re_met0 ok ho he
        | cons e es =>
          rw [List.all_cons, Bool.and_eq_true] at q2
          exact re_met ok ho q1 (plain_star q2.1) (plains_pl q2.2) he
      · cases h
    · cases h
  · cases h
/-- o.m(.., k = ..) -/
def cMethK (gl : List (Str × GV)) (m : Str) (nE : Nat) (ks : List Str) (a : CB) (l k : CL) : CV := fun ρ => bnd (a ρ) fun o Q E => match o with
  | .obj c fs => match gl.lookup (clsKey c m) with
    | some (.me c' m' n mm kw) => match kw.find? (fun z => decide (z.1 = nE ∧ z.2.1 = ks)) with
      | some z => (c' = c ∧ m' = m ∧ fs.lookup m = none) ∧ l ρ (fun ds => k ρ (fun dz => callD n mm (.obj c fs :: pick z.2.2 (ds ++ dz)) Q E) E) E
      | none => False
    | _ => False
  | _ => False
theorem re_metK {X : Cx} {g : Sg} {E : EX} {m : Str} {pos ap : Pos} {o : Expr} {es : List Expr} {kws : List Keyword} {ks : List Str} {xo : CB} {cl ck : CL} (ok : SgOk X g E) (ho : PE X o (rdF X.K E xo)) (hso : noSupE o = true) (hnil : es = [] → cl = cNil) (hp : es.all plainE = true) (hks : kws.map (·.arg) = ks.map some)
    (hl : PA X es (rdL X.K E es.length cl)) (hkw : PK X kws (rdL X.K E ks.length ck)) (hlen : es.length + kws.length < 29) (hline : (ap.endLine == pos.line) = true) :
    PE X (.Call (.Attribute o m ap) es kws pos) (rdV X.K E (cMethK g.gl m es.length ks xo cl ck)) := by
  obtain ⟨pl, he⟩ := meth_evalK (o := o) (m := m) (env := X.env) hso hp hks hlen hline
  refine ⟨fun pins s σ H Q' I hw => ?_⟩
  obtain ⟨Fz, ρ, Q, re, h, kq⟩ := hw
  refine PySem.W.methodCall_KW (pl := pl) (thn (ho.run pins s σ H (fun v H1 => ∃ F1 d, Grow Fz H F1 H1 ∧ Rep X.K F1 v d ∧ (match d with
    | .obj c fs => match g.gl.lookup (clsKey c m) with
      | some (.me c' m' n mm kw) => match kw.find? (fun z => decide (z.1 = es.length ∧ z.2.1 = ks)) with
        | some z => (c' = c ∧ m' = m ∧ fs.lookup m = none) ∧ cl ρ (fun ds => ck ρ (fun dz => callD n mm (.obj c fs :: pick z.2.2 (ds ++ dz)) Q (E.at ρ)) (E.at ρ)) (E.at ρ)
        | none => False
      | _ => False
    | _ => False)) I ⟨Fz, ρ, _, re, h, fun v H1 F1 d g1 r1 q => ⟨F1, d, g1, r1, q⟩⟩) ?_) he
  rintro u s1 ⟨v, H1, I1, rv, F1, d, g1, r1, q⟩
  split at q
  · rename_i c fs
    split at q
    · rename_i c' m' n mm kw el
      split at q
      · rename_i z hz
        obtain ⟨⟨rfl, rfl, hlk⟩, q⟩ := q
        obtain ⟨C, k, f, fd, ps, hc, hcl, hme, F, hr, hb, rfl, hkw'⟩ := ok.gl _ _ el
        have z1 := List.mem_of_find?_eq_some hz
        have z4 := List.find?_some hz
        obtain ⟨z2, z3⟩ := of_decide_eq_true z4
        cases r1 with
        | @obj a _ gs _ oa rf =>
          obtain ⟨C', dx, hc', hi⟩ := oa
          have := hc.one hc'
          subst this
          cases rv
          refine getmeth_ok I1 (g1.fh _ _ hi) hcl hme (rf.none hlk) ?_
          refine cw_args (first := [.ref a]) hnil I1 hme.kp hp hks hl hkw (re.grow g1) (P := fun xs => callD ps.length mm (.obj c' fs :: pick z.2.2 xs) Q (E.at ρ)) q ?_
          intro us ws vs zs ds dz H2 F2 s2 I2 rv rz r1 r2 g2 l1 l2 q
          have kb := BindOk1.kw (hkw' z z1)
          rw [z2, z3] at kb
          have rr : RepL X.K F2 (V.ref a :: pick z.2.2 (vs ++ zs)) (.obj c' fs :: pick z.2.2 (ds ++ dz)) := .cons ((Rep.obj ⟨C, dx, hc, hi⟩ rf).mono g2.f) ((r1.append r2).pick _)
          have rvv : Vals (V.ref a :: pick z.2.2 (vs ++ zs)) (Value.ref a :: pick z.2.2 (us ++ ws)) := .cons rfl (vals_pick (rv.append rz) _)
          exact runG (args := ⟨Value.ref a :: us, ks.zip ws⟩) (ws := []) F (hr.mono (Nat.le_succ _)) ok.gd (kb s2 (.ref a) us ws I2.kIn l1 l2) (passAt ok.tk σ) I2 rvv (sp_of (fl := false) kq (g1.trans g2) rr q re.err)
      · exact q.elim
    · exact q.elim
  · exact q.elim
def kwNames (kws : List Keyword) : Option (List Str) := kws.mapM (·.arg)
theorem kwNames_is : ∀ {kws : List Keyword} {ks : List Str}, kwNames kws = some ks → kws.map (·.arg) = ks.map some
  | [], ks, h => by cases h; rfl
  | k :: kws, ks, h => by
    unfold kwNames at h
    rw [List.mapM_cons] at h
    obtain ⟨a, h1, h⟩ := bind_some h
    obtain ⟨b, h2, h⟩ := bind_some h
    cases h
    rw [List.map_cons, List.map_cons, h1, kwNames_is (show kwNames kws = some b from h2)]
def vMethK : VR := fun r g e => match e with
  | .Call (.Attribute o m ap) es (kw :: kws) pos => if (noSupE o && (decide (es.length + (kw :: kws).length < 29) && (ap.endLine == pos.line))) = true then match kwNames (kw :: kws), fOf r g o, lOf r g es, kOf r g (kw :: kws) with
    | some ks, some a, some l, some k => some (cMethK g.gl m es.length ks a l k)
    | _, _, _, _ => none else none
  | _ => none
theorem vMethK_ok : VrOk vMethK := by
  intro r R X g E e c ok h
  unfold vMethK at h
  split at h
  · rename_i o m ap es kw kws pos
    split at h
    · rename_i hp
      rw [Bool.and_eq_true, Bool.and_eq_true, decide_eq_true_eq] at hp
      obtain ⟨h1, h2, h3⟩ := hp
      split at h
      · rename_i ks a l k hks ha hl hk
        cases h
        have z3 := kwNames_is hks
        obtain ⟨q1, q2⟩ := lOf_ok (E := E) R ok hl
        have kk := kOf_ok (E := E) R ok hk
        rw [kw_len z3] at kk
        exact re_metK ok (fOf_ok (E := E) R ok ha) h1 (lOf_nil hl) q2 z3 q1 kk h2 h3
      · cases h
    · cases h
  · cases h
end DL
/-! operators, ==, != and in of own classes -/
namespace DL
open PySem L2 PySem.Spec PyProof.Rows

/-! ### the right side's class -/
def rOk (gl : List (Str × GV)) (c : Str) (y : D) : Bool := isCls gl c && ((match y with
  | .obj c2 _ => decide (c2 = c) && isCls gl c2
  | _ => false) || decide (isoB gl y (.inr c) = some false))
theorem kit_no {K : PySem.W.Frag} {T : Value} {C : Addr} (h : PySem.W.kitOne K T (.ref C) = some false) : (T == .ref C) = false ∧ PySem.W.subIn K T (.ref C) = some false := by
  unfold PySem.W.kitOne at h
  cases e : (T == Value.ref C) with
  | true => rw [e, if_pos rfl] at h; cases h
  | false =>
    rw [e, if_neg Bool.false_ne_true] at h
    refine ⟨rfl, ?_⟩
    have h' : (if ((PySem.W.clsIn K C).isSome && PySem.W.typeIn K (.ref C) == some (.type "type")) = true then PySem.W.subIn K T (.ref C) else none) = some false := h
    split at h'
    · exact h'
    · cases h'
theorem rOk_ok {X : Cx} {g : Sg} {E : EX} (ok : SgOk X g E) {pins : List (Addr × Obj)} {σ : L2.St} {s : Shared} {F H : Hp} {v : V} {u : Value} {y : D} {c : Str} {C : Addr} (sm : Same F H) (b : Bor X.K F H v y) (I : Inv X pins σ H s) (rv : RelV v u) (h : rOk g.gl c y = true) (hc : ClsAt X.K c C) :
    ∃ T, PySem.W.Looks (model X.prog X.w) s.heap (typeOf u) T ∧ (T = .ref C ∨ ((T == .ref C) = false ∧ PySem.W.subIn X.K T (.ref C) = some false)) ∧ ((∃ c2 fs C2, y = .obj c2 fs ∧ ClsAt X.K c2 C2 ∧ T = .ref C2) ∨ ∃ n, tyN y = some n ∧ T = .type n.s) := by
  unfold rOk at h
  rw [Bool.and_eq_true, Bool.or_eq_true] at h
  obtain ⟨h0, h1⟩ := h
  obtain ⟨C', hc', _, hx⟩ := isCls_is ok h0
  have := hc'.one hc
  subst this
  rcases h1 with h1 | h1
  · split at h1
    · rename_i c2 fs
      rw [Bool.and_eq_true, decide_eq_true_eq] at h1
      obtain ⟨rfl, h1⟩ := h1
      obtain ⟨C2, hc2, hx2, ty⟩ := tyX_obj ok sm b h1
      have := hc2.one hc
      subst this
      obtain ⟨P, Z, p, _⟩ := kit_of I rv ty
      exact ⟨.ref C2, Z.ty _ _ I.kIn p, .inl rfl, .inl ⟨_, _, _, rfl, hc, rfl⟩⟩
    · cases h1
  · have h1 := of_decide_eq_true h1
    obtain ⟨T, ty, kk, ct⟩ := iso_kit ok sm b h1
    have hk := kk (.inr c) false (.ref C') (.ref C') ⟨C', hc', hx.kc, rfl, rfl⟩ h1
    obtain ⟨P, Z, p, _⟩ := kit_of I rv (ty H (Same.refl H))
    exact ⟨T, Z.ty (model X.prog X.w) _ I.kIn p, .inr (kit_no hk), ct⟩
/-! ### a method called by an operator -/
theorem relV_back {v : V} {u : Value} {Q : Value → Shared → Prop} {s : Shared} (r : RelV v u) (h : Q u s) : PySem.W.CmpBack Q u s := by
  cases v with
  | non => cases (show u = Value.none from r); exact h
  | bl b => cases (show u = Value.bool b from r); exact h
  | int i => obtain ⟨t, e⟩ := (show ∃ t, u = Value.int i t from r); subst e; exact h
  | str x => obtain ⟨t, e⟩ := (show ∃ t, u = Value.str x t from r); subst e; exact h
  | byt b => obtain ⟨t, e⟩ := (show ∃ t, u = Value.bytes b t from r); subst e; exact h
  | flt b => obtain ⟨t, e⟩ := (show ∃ t, u = Value.float b t from r); subst e; exact h
  | ref a => cases (show u = Value.ref a from r); exact h
  | ty n => cases (show u = Value.type n from r); exact h
section
variable {X : Cx} {E : EX} {g : Sg} {pins : List (Addr × Obj)} {σ : L2.St} {H Fz F1 : Hp} {s : Shared} {ρ : Env} {Q : D × Bool → Prop} {Q' : VK} {c m : Str} {n : Nat} {mm : List D → M D} {kw : List (Nat × List Str × List Nat)} {A : Around}
/-- the operands' values, a method that answers -/
theorem run_dun (ok : SgOk X g E) (el : g.gl.lookup (clsKey c m) = some (.me c m n mm kw)) (re : REnv X.K E.B E.F0 Fz H σ ρ) {H1 : Hp} (g1 : Grow Fz H F1 H1) (I : Inv X pins σ H1 s) {vs : List V} {us : List Value} {ds : List D} (rv : Vals vs us) (r1 : RepL X.K F1 vs ds)
    (kq : ∀ v H' F' r, Grow Fz H F' H' → Val X.K F' H' H v r → Q r → Q' v H') (q : callD n mm ds Q (E.at ρ)) : ∃ C f, ClsAt X.K c C ∧ Cls X.K C ∧ Meth X.K C m f ∧ wpAny (model X.prog X.w) X.A (call (.ref f) us) (EP X pins σ Q') X.xe s := by
  obtain ⟨C, k, f, fd, ps, hc, hcl, hme, F, hr, hb, rfl, _⟩ := ok.gl _ _ el
  refine ⟨C, f, hc, hcl, hme, ?_⟩
  have l : us.length = ps.length := by rw [← rv.length, r1.length]; exact q.1
  have b := hb s us I.kIn (by rw [List.append_nil]; exact l)
  rw [List.append_nil] at b
  exact runG (args := ⟨us, []⟩) (ws := []) F (hr.mono (Nat.le_succ _)) ok.gd b (passAt ok.tk σ) I rv (sp_of (fl := false) kq g1 r1 q re.err)
end
/-! ### obj op y -/
theorem binop_R {prog : Program} {w : World} {A : Around} {E : Value → Shared → Prop} {s : Shared} {K : PySem.W.Frag} {x C C2 L f f2 : Addr} {h₀ : Heap} {m : Str → Option Value} {ox : Obj} {od : Option Obj} {op : Operator} {b : Value} {rc rc2 : Option Value} {Q : Value → Shared → Prop} (F : Fr h₀ L s.heap m) (X₀ : K.In h₀) (I : PySem.W.InstAt s.heap x ox C od) (hb : PySem.W.Looks (model prog w) s.heap (typeOf b) (.ref C2)) (hne : (Value.ref C2 == Value.ref C) = false) (hc : PySem.W.selfFirst K C = true) (hc2 : PySem.W.selfFirst K C2 = true)
    (hs : PySem.W.findIn K (.ref C) (PySem.dunder op.info.2) = some (some (.ref f))) (hf : PySem.W.isFn K (.ref f) = true) (hr : PySem.W.findIn K (.ref C) (dunderR op.info.2) = some rc) (hp : rc = none ∨ ∃ g : Addr, rc = some (.ref g))
    (hs2 : PySem.W.findIn K (.ref C2) (PySem.dunder op.info.2) = some (some (.ref f2))) (hr2 : PySem.W.findIn K (.ref C2) (dunderR op.info.2) = some rc2) (hp2 : rc2 = none ∨ ∃ g : Addr, rc2 = some (.ref g)) (hsub : PySem.W.subIn K (.ref C2) (.ref C) = some false)
    (h : wpAny (model prog w) A (call (.ref f) [.ref x, b]) (PySem.W.CmpBack Q) E s) : wpAny (model prog w) A (binaryOp op (.ref x) b) Q E s := by
  have X := X₀.keeps F.keep
  obtain ⟨cd, rest, hcd, hm⟩ := PySem.W.ksp_first hc
  obtain ⟨cd2, rest2, hcd2, hm2⟩ := PySem.W.ksp_first hc2
  rcases hi : op.info with ⟨sym, nm'⟩
  rw [hi] at hs hr hs2 hr2
  dsimp only at hs hr hs2 hr2
  have one := PySem.W.ksp_try X I hs hf h
  obtain ⟨hh, g, d, tt, os⟩ := s
  have L1 : PySem.W.Looks (model prog w) hh (typeOf (.ref x)) (.ref C) := I.type
  have L2 : PySem.W.Looks (model prog w) hh (typeOf b) (.ref C2) := hb
  have L3 : PySem.W.Looks (model prog w) hh (fillsNumberSlot (.ref C) nm') true := PySem.W.fills_K X hcd hm hs
  have L4 : PySem.W.Looks (model prog w) hh (fillsNumberSlot (.ref C2) nm') true := PySem.W.fills_K X hcd2 hm2 hs2
  have L5 : PySem.W.Looks (model prog w) hh (isSubtype (.ref C2) (.ref C)) false := PySem.W.looks_subIn X hsub
  have L6 : PySem.W.Looks (model prog w) hh (numberSlotInPython (.ref C) nm') true := PySem.W.ksp_inPy X hs hr hp
  have L7 : PySem.W.Looks (model prog w) hh (numberSlotInPython (.ref C2) nm') true := PySem.W.ksp_inPy X hs2 hr2 hp2
  have hne' : (Value.ref C == Value.ref C2) = false := Bool.eq_false_iff.mpr fun q => by rw [beq_iff_eq.mp q] at hne; simp at hne
  simp only [binaryOp, hi]
  refine wpAny_holding (wpAny_bind ?_)
  unfold binaryOp1
  refine wpAny_bind (L1.at (wpAny_bind (L2.at (wpAny_bind (L3.at ?_)))))
  simp only [hne', Bool.false_eq_true, if_false]
  ksp_lk
  refine wpAny_mono one (fun r s' hr' => ?_) fun _ _ e => e
  obtain ⟨v, rfl, hq⟩ := hr'
  ksp_lk
  exact hq
theorem binop_T {prog : Program} {w : World} {A : Around} {E : Value → Shared → Prop} {s : Shared} {K : PySem.W.Frag} {x C L f : Addr} {h₀ : Heap} {m : Str → Option Value} {ox : Obj} {od : Option Obj} {op : Operator} {b : Value} {fo ro rc : Option Value} {T : String} {Q : Value → Shared → Prop} (F : Fr h₀ L s.heap m) (X₀ : K.In h₀) (I : PySem.W.InstAt s.heap x ox C od) (hb : PySem.W.Looks (model prog w) s.heap (typeOf b) (.type T)) (hc : PySem.W.selfFirst K C = true)
    (hs : PySem.W.findIn K (.ref C) (PySem.dunder op.info.2) = some (some (.ref f))) (hf : PySem.W.isFn K (.ref f) = true) (hr : PySem.W.findIn K (.ref C) (dunderR op.info.2) = some rc) (hp : rc = none ∨ ∃ g : Addr, rc = some (.ref g))
    (h1 : PySem.W.findIn K (.type T) (PySem.dunder op.info.2) = some fo) (h2 : PySem.W.findIn K (.type T) (dunderR op.info.2) = some ro) (hsub : PySem.W.subIn K (.type T) (.ref C) = some false)
    (h : wpAny (model prog w) A (call (.ref f) [.ref x, b]) (PySem.W.CmpBack Q) E s) : wpAny (model prog w) A (binaryOp op (.ref x) b) Q E s := by
  have X := X₀.keeps F.keep
  obtain ⟨cd, rest, hcd, hm⟩ := PySem.W.ksp_first hc
  rcases hi : op.info with ⟨sym, nm'⟩
  rw [hi] at hs hr h1 h2
  dsimp only at hs hr h1 h2
  have one := PySem.W.ksp_try X I hs hf h
  obtain ⟨hh, g, d, tt, os⟩ := s
  have L1 : PySem.W.Looks (model prog w) hh (typeOf (.ref x)) (.ref C) := I.type
  have L2 : PySem.W.Looks (model prog w) hh (typeOf b) (.type T) := hb
  have L3 : PySem.W.Looks (model prog w) hh (fillsNumberSlot (.ref C) nm') true := PySem.W.fills_K X hcd hm hs
  have L4 : PySem.W.Looks (model prog w) hh (fillsNumberSlot (.type T) nm') ((fo.isSome && !isSeqSlot fo) || (ro.isSome && !isSeqSlot ro)) := PySem.W.ksp_fillsT X h1 h2
  have L5 : PySem.W.Looks (model prog w) hh (isSubtype (.type T) (.ref C)) false := PySem.W.looks_subIn X hsub
  have L6 : PySem.W.Looks (model prog w) hh (numberSlotInPython (.ref C) nm') true := PySem.W.ksp_inPy X hs hr hp
  have L7 : PySem.W.Looks (model prog w) hh (numberSlotInPython (.type T) nm') false := PySem.W.Looks.of_pure rfl
  have L8 : PySem.W.Looks (model prog w) hh (typeLookup (.type T) (dunderR nm')) ro := PySem.W.looks_findIn X h2
  generalize ((fo.isSome && !isSeqSlot fo) || (ro.isSome && !isSeqSlot ro)) = right at L4
  have hne : (Value.ref C == Value.type T) = false := Bool.eq_false_iff.mpr fun q => by cases beq_iff_eq.mp q
  simp only [binaryOp, hi]
  refine wpAny_holding (wpAny_bind ?_)
  unfold binaryOp1
  refine wpAny_bind (L1.at (wpAny_bind (L2.at (wpAny_bind (L3.at ?_)))))
  simp only [hne, Bool.false_eq_true, if_false]
  cases right with
  | false =>
    ksp_lk
    refine wpAny_mono one (fun r s' hr' => ?_) fun _ _ e => e
    obtain ⟨v, rfl, hq⟩ := hr'
    ksp_lk
    exact hq
  | true =>
    ksp_lk
    refine wpAny_mono one (fun r s' hr' => ?_) fun _ _ e => e
    obtain ⟨v, rfl, hq⟩ := hr'
    ksp_lk
    exact hq
def opsKey (c : Str) : Str := "ops:" ++ c
def hasOp (gl : List (Str × GV)) (c : Str) (op : Operator) : Bool := match gl.lookup (opsKey c) with
  | some (.ops c' os _) => decide (c' = c) && os.contains op
  | _ => false
def hasMe (gl : List (Str × GV)) (c m : Str) : Bool := match gl.lookup (clsKey c m) with
  | some (.me c' m' _ _ _) => decide (c' = c ∧ m' = m)
  | _ => false
def opsOk (gl : List (Str × GV)) (c : Str) (op : Operator) (y : D) : Bool := hasOp gl c op && match y with
  | .obj c2 _ => hasOp gl c2 op && hasMe gl c2 (PySem.dunder op.info.2)
  | _ => true
def binO (gl : List (Str × GV)) (op : Operator) (x y : D) : M (D × Bool) := fun Q E => match x with
  | .obj c fs => match gl.lookup (clsKey c (PySem.dunder op.info.2)) with
    | some (.me c' m' n mm _) => (c' = c ∧ m' = PySem.dunder op.info.2) ∧ rOk gl c y = true ∧ opsOk gl c op y = true ∧ callD n mm [.obj c fs, y] Q E
    | _ => False
  | x => binM op x y Q E
def cBinO (gl : List (Str × GV)) (op : Operator) (a b : CB) : CV := fun ρ => bnd (a ρ) fun x => bnd (b ρ) fun y => binO gl op x y
theorem hasOp_is {X : Cx} {g : Sg} {E : EX} (ok : SgOk X g E) {c : Str} {op : Operator} {C : Addr} (hc : ClsAt X.K c C) (h : hasOp g.gl c op = true) : opB X.K C op = true := by
  unfold hasOp at h
  split at h
  · rename_i c' os ne el
    rw [Bool.and_eq_true, decide_eq_true_eq] at h
    obtain ⟨rfl, h⟩ := h
    obtain ⟨C', hc', ho, _⟩ := ok.gl _ _ el
    have := hc'.one hc
    subst this
    exact ho op (by simpa using h)
  · cases h
theorem hasMe_is {X : Cx} {g : Sg} {E : EX} (ok : SgOk X g E) {c m : Str} {C : Addr} (hc : ClsAt X.K c C) (h : hasMe g.gl c m = true) : ∃ f, Meth X.K C m f := by
  unfold hasMe at h
  split at h
  · rename_i c' m' n mm kw el
    obtain ⟨rfl, rfl⟩ := of_decide_eq_true h
    obtain ⟨C', k, f, fd, ps, hc', hcl, hme, _⟩ := ok.gl _ _ el
    have := hc'.one hc
    subst this
    exact ⟨f, hme⟩
  · cases h
theorem opB_is {K : PySem.W.Frag} {C : Addr} {op : Operator} (h : opB K C op = true) : PySem.W.selfFirst K C = true ∧ (∃ rc, PySem.W.findIn K (.ref C) (dunderR op.info.2) = some rc ∧ (rc = none ∨ ∃ g : Addr, rc = some (.ref g))) ∧
    ∀ T ∈ tys7, ∃ fo ro, PySem.W.findIn K (.type T) (PySem.dunder op.info.2) = some fo ∧ PySem.W.findIn K (.type T) (dunderR op.info.2) = some ro := by
  unfold opB at h
  rw [Bool.and_eq_true, Bool.and_eq_true] at h
  obtain ⟨⟨h1, h2⟩, h3⟩ := h
  refine ⟨h1, ?_, fun T hT => ?_⟩
  · split at h2
    · rename_i e; exact ⟨_, e, .inl rfl⟩
    · rename_i g e; exact ⟨_, e, .inr ⟨g, rfl⟩⟩
    · cases h2
  · have := List.all_eq_true.mp h3 T hT
    rw [Bool.and_eq_true] at this
    obtain ⟨a, b⟩ := this
    obtain ⟨fo, ha⟩ := Option.isSome_iff_exists.mp a
    obtain ⟨ro, hb⟩ := Option.isSome_iff_exists.mp b
    exact ⟨fo, ro, ha, hb⟩
theorem re_binO {X : Cx} {g : Sg} {E : EX} {a b : Expr} {op : Operator} {xa xb : CB} {pos : Pos} (ok : SgOk X g E) (ha : PE X a (rdF X.K E xa)) (hb : PE X b (rdF X.K E xb)) : PE X (.BinOp a op b pos) (rdV X.K E (cBinO g.gl op xa xb)) := by
  refine ⟨fun pins s σ H Q' I hw => ?_⟩
  obtain ⟨Fz, ρ, Q, re, h, kq⟩ := hw
  refine wpAny_BinOp (binT ha hb (R := fun x y H2 => ∃ F2 d d2, Grow Fz H F2 H2 ∧ Rep X.K F2 x d ∧ Rep X.K F2 y d2 ∧ binO g.gl op d d2 Q (E.at ρ)) I
    ⟨Fz, ρ, _, re, h, fun v H1 F1 d g1 b1 h1 => ⟨F1, ρ, _, re.grow g1, h1, fun u H2 F2 d2 g2 b2 q => ⟨F2, d, d2, g1.trans g2, b1.mono g2.f, b2, q⟩⟩⟩ ?_)
  rintro v u s2 x y H2 I2 rx ry ⟨F2, d, d2, g2, b1, b2, q⟩
  unfold binO at q
  split at q
  · rename_i c fs
    split at q
    · rename_i c' m' n mm kw el
      obtain ⟨⟨rfl, rfl⟩, hR, hO, q⟩ := q
      cases b1 with
      | @obj a _ gs _ oa rf =>
        cases rx
        have rr : RepL X.K F2 [V.ref a, y] [.obj c' fs, d2] := .cons (.obj oa rf) (.cons b2 .nil)
        have rv : Vals [V.ref a, y] [Value.ref a, u] := .cons rfl (.cons ry .nil)
        obtain ⟨C, f, hc, hcl, hme, run⟩ := run_dun ok el re g2 I2 rv rr kq q
        obtain ⟨C', dx, hc', hi⟩ := oa
        have := hc.one hc'
        subst this
        obtain ⟨mA, O, _⟩ := ins_get I2.hok (g2.fh _ _ hi)
        obtain ⟨od, J, _⟩ := O.look
        obtain ⟨mF, hF⟩ := I2.fr
        have fin : wpAny (model X.prog X.w) X.A (call (.ref f) [.ref a, u]) (PySem.W.CmpBack (EP X pins σ Q')) X.xe s2 := thn run fun r s' ⟨w, H3, I3, rw, q3⟩ => relV_back rw ⟨w, H3, I3, rw, q3⟩
        unfold opsOk at hO
        rw [Bool.and_eq_true] at hO
        obtain ⟨hO1, hO2⟩ := hO
        obtain ⟨sf, ⟨rc, hr, hp⟩, hT⟩ := opB_is (hasOp_is ok hc hO1)
        obtain ⟨T, L, cs, kind⟩ := rOk_ok ok g2.fh (.inl b2) I2 ry hR hc
        rcases cs with rfl | ⟨hne, hsub⟩
        · exact PySem.W.binop_K hF I2.ok.mod.kin J L sf hme.at_ hme.fn fin
        · rcases kind with ⟨c2, fs2, C2, rfl, hc2, rfl⟩ | ⟨n', hn, rfl⟩
          · dsimp only at hO2
            rw [Bool.and_eq_true] at hO2
            obtain ⟨sf2, ⟨rc2, hr2, hp2⟩, _⟩ := opB_is (hasOp_is ok hc2 hO2.1)
            obtain ⟨f2, hm2⟩ := hasMe_is ok hc2 hO2.2
            exact binop_R hF I2.ok.mod.kin J L hne sf sf2 hme.at_ hme.fn hr hp hm2.at_ hr2 hp2 hsub fin
          · obtain ⟨fo, ro, h1, h2⟩ := hT n'.s (by cases n' <;> decide)
            exact binop_T hF I2.ok.mod.kin J L sf hme.at_ hme.fn hr hp h1 h2 hsub fin
    · exact q.elim
  · exact op_bin op pins s2 σ H2 x y v u Q' I2 rx ry ⟨F2, d, d2, Q, _, g2.fh, .inl b1, .inl b2, q, fun w F3 H3 r g3 v3 q => kq w H3 F3 r (g2.trans g3) (v3.back g2) q⟩
/-! ### ~obj, -obj -/
def unO (gl : List (Str × GV)) (m : Str) (x : D) : M (D × Bool) := fun Q E => match x with
  | .obj c fs => match gl.lookup (clsKey c m) with
    | some (.me c' m' n mm _) => (c' = c ∧ m' = m) ∧ callD n mm [.obj c fs] Q E
    | _ => False
  | _ => False
def cUnO (gl : List (Str × GV)) (m : Str) (a : CB) : CV := fun ρ => bnd (a ρ) (unO gl m)
theorem re_inv {X : Cx} {g : Sg} {E : EX} {a : Expr} {xa : CB} {pos : Pos} (ok : SgOk X g E) (ha : PE X a (rdF X.K E xa)) : PE X (.UnaryOp .Invert a pos) (rdV X.K E (cUnO g.gl "__invert__" xa)) := by
  refine ⟨fun pins s σ H Q' I hw => ?_⟩
  obtain ⟨Fz, ρ, Q, re, h, kq⟩ := hw
  refine UnaryOp_ (thn (ha.run pins s σ H (fun x H1 => ∃ F1 d, Grow Fz H F1 H1 ∧ Rep X.K F1 x d ∧ unO g.gl "__invert__" d Q (E.at ρ)) I ⟨Fz, ρ, _, re, h, fun v H1 F1 d g1 b1 q => ⟨F1, d, g1, b1, q⟩⟩) ?_)
  rintro v s1 ⟨x, H1, I1, rx, F1, d, g1, b1, q⟩
  unfold unO at q
  split at q
  · rename_i c fs
    split at q
    · rename_i c' m' n mm kw el
      obtain ⟨⟨rfl, rfl⟩, q⟩ := q
      cases b1 with
      | @obj a _ gs _ oa rf =>
        cases rx
        have rr : RepL X.K F1 [V.ref a] [.obj c' fs] := .cons (.obj oa rf) .nil
        have rv : Vals [V.ref a] [Value.ref a] := .cons rfl .nil
        obtain ⟨C, f, hc, hcl, hme, run⟩ := run_dun ok el re g1 I1 rv rr kq q
        obtain ⟨C', dx, hc', hi⟩ := oa
        have := hc.one hc'
        subst this
        obtain ⟨mA, O, _⟩ := ins_get I1.hok (g1.fh _ _ hi)
        obtain ⟨od, J, _⟩ := O.look
        obtain ⟨mF, hF⟩ := I1.fr
        exact PySem.W.ksp_inv hF I1.ok.mod.kin J hme.at_ hme.fn run
    · exact q.elim
  · exact q.elim
end DL
/-! ==, != and in by own methods -/
namespace DL
open PySem L2 PySem.Spec PyProof.Rows Builtin

section
variable {prog : Program} {w : World} {A : Around} {E : Value → Shared → Prop} {s : Shared} {K : PySem.W.Frag} {x C L f : Addr} {h₀ : Heap} {m : Str → Option Value} {ox : Obj} {od : Option Obj} {b tb : Value}
theorem bind_ne (self : Value) : bindSpecial (.builtin "object.__ne__") self = pure (.builtin "object.__ne__", [self]) := F.cmp_object.ne.bind self
theorem ifBound_ne {M : Model} {args : List Value} {Q : Option Value → Shared → Prop} (X : K.In s.heap) (I : PySem.W.InstAt s.heap x ox C od) (hs : PySem.W.findIn K (.ref C) "__ne__" = some (some (.builtin "object.__ne__")))
    (h : wpAny M A (call (.builtin "object.__ne__") (.ref x :: args)) (fun v => Q (some v)) E s) : wpAny M A (callSpecialIfBound? (.ref x) "__ne__" args) Q E s := by
  simp only [callSpecialIfBound?, bindSpecialIfBound?]
  refine wpAny_holding (wpAny_bind (wpAny_bind (wpAny_bind (I.type.here ((PySem.W.looks_findIn X hs).here ?_)))))
  refine wpAny_bind (wpAny_askSetting (wpAny_ite ?_))
  have fin : wpAny M A (call (.builtin "object.__ne__") ([.ref x] ++ args) >>= fun v => pure (some v)) Q E s := wpAny_bind (wpAny_mono h (fun v s' h' => wpAny_pure h') fun _ _ h' => h')
  have bd : PySem.W.Looks M s.heap (bindSpecial (.builtin "object.__ne__") (.ref x)) (.builtin "object.__ne__", [.ref x]) := PySem.W.Looks.of_pure (bind_ne _)
  split
  · exact wpAny_bind (bd.here (wpAny_pure (by exact fin)))
  · exact wpAny_tryCatch (wpAny_bind (bd.here (wpAny_pure (by exact fin))))
theorem body_ne (X : K.In s.heap) (I : PySem.W.InstAt s.heap x ox C od) (hu : A.units < cLine) (hs : PySem.W.findIn K (.ref C) "__eq__" = some (some (.ref f))) (hf : PySem.W.isFn K (.ref f) = true) {Q : Fin → Shared → Prop}
    (h : wpAny (model prog w) A (call (.ref f) [.ref x, b]) (fun v s' => ∃ r, v = .bool r ∧ Q (.done (.ret (.bool (!r)))) s') E s) : wpAny (model prog w) A (Builtin.«object.__ne__» ⟨[.ref x, b], []⟩) Q E s := by
  unfold Builtin.«object.__ne__»
  repeat (first
    | with_reducible refine wpAny_cRoomFor hu ?_
    | (refine wpAny_bind (m := callSpecialIfBound? (.ref x) (Str.ofString "__eq__") [b])
        (PySem.W.ifBound_K X I hs hf (wpAny_mono h (fun r s' hr => by
          obtain ⟨b, rfl, hq⟩ := hr
          repeat (first | exact hq | exact wpAny_pure hq | exact wpAny_truthy_bool hq | (refine wpAny_bind (m := truthy (.bool _)) (wpAny_truthy_bool ?_)) | wp_step)) fun _ _ e => e)))
    | wp_step)
theorem ne_K {Q : Value → Shared → Prop} (hu : A.units + 1 < cLine) (F : Fr h₀ L s.heap m) (X₀ : K.In h₀) (I : PySem.W.InstAt s.heap x ox C od) (hb : PySem.W.Looks (model prog w) s.heap (typeOf b) tb) (hn : PySem.W.notFirst K C tb = true)
    (hne : PySem.W.findIn K (.ref C) "__ne__" = some (some (.builtin "object.__ne__"))) (hob : PySem.W.mroIn K C (.type "object") = some true)
    (hs : PySem.W.findIn K (.ref C) "__eq__" = some (some (.ref f))) (hf : PySem.W.isFn K (.ref f) = true)
    (h : wpAny (model prog w) A.in1 (call (.ref f) [.ref x, b]) (fun v s' => ∃ r, v = .bool r ∧ Q (.bool (!r)) s') E s) : wpAny (model prog w) A (richCompare .NotEq (.ref x) b) Q E s := by
  have X := X₀.keeps F.keep
  have one : wpAny (model prog w) A (tryCompare (.ref x) "__ne__" b) (fun r s' => ∃ v, r = some v ∧ Q v s') E s := by
    unfold tryCompare
    refine wpAny_bind (ifBound_ne X I hne (wpAny_call (codeAny_call_builtin PySem.F.cmp_object.ne.plain PySem.F.cmpEntry_ne
      (@PySem.W.check_slot (model prog w) _ _ s "object.__ne__" "object" "__ne__" (.ref x) [b] [] _ PySem.F.cmpKind_ne PySem.F.cmpSplit_ne (I.type.andThen (PySem.W.looks_mroIn X hob)) (PySem.F.cmpArgs_ne (.ref x) b)
        (body_ne (A := A.in1) X I (by show A.units + 1 < cLine; exact hu) hs hf (wpAny_mono h (fun v s' hv => ?_) fun _ _ e => e))))))
    obtain ⟨r, rfl, hq⟩ := hv
    exact ⟨r, rfl, wpAny_pure ⟨_, rfl, hq⟩⟩
  unfold richCompare
  simp only [oneThing_ref]
  refine wpAny_holding (wpAny_bind (wpAny_cRoomFor (Nat.lt_of_succ_lt hu) ?_))
  refine wpAny_bind (I.type.here (wpAny_bind (hb.here ?_)))
  split
  · rename_i q
    have e : PySem.W.subIn K tb (.ref C) = some false := by
      rcases Bool.or_eq_true_iff.mp hn with e | e
      · rw [beq_iff_eq.mp e] at q; simp at q
      · exact beq_iff_eq.mp e
    refine wpAny_bind ((PySem.W.looks_subIn X e).here ?_)
    simp only [Bool.false_eq_true, if_false]
    refine wpAny_bind (wpAny_mono one (fun r s' z => ?_) fun _ _ e => e)
    obtain ⟨v, rfl, hq⟩ := z
    exact wpAny_pure hq
  · refine wpAny_bind (wpAny_pure ?_)
    simp only [Bool.false_eq_true, if_false]
    refine wpAny_bind (wpAny_mono one (fun r s' z => ?_) fun _ _ e => e)
    obtain ⟨v, rfl, hq⟩ := z
    exact wpAny_pure hq
end

def hasNe (gl : List (Str × GV)) (c : Str) : Bool := match gl.lookup (opsKey c) with
  | some (.ops c' _ ne) => decide (c' = c) && ne
  | _ => false
def cmpO (gl : List (Str × GV)) (op : CmpOp) (x y : D) : M Bool := fun Q E => match op, x, y with
  | .Eq, .obj c fs, y => match gl.lookup (clsKey c "__eq__") with
    | some (.me c' m' n mm _) => (c' = c ∧ m' = "__eq__") ∧ rOk gl c y = true ∧ callD n mm [.obj c fs, y] (fun r => ∃ b, r.1 = .bl b ∧ Q b) E
    | _ => False
  | .NotEq, .obj c fs, y => match gl.lookup (clsKey c "__eq__") with
    | some (.me c' m' n mm _) => (c' = c ∧ m' = "__eq__") ∧ (rOk gl c y && hasNe gl c) = true ∧ callD n mm [.obj c fs, y] (fun r => ∃ b, r.1 = .bl b ∧ Q (!b)) (fun _ => False)
    | _ => False
  | .In, x, .obj c fs => match gl.lookup (clsKey c "__contains__") with
    | some (.me c' m' n mm _) => (c' = c ∧ m' = "__contains__") ∧ callD n mm [.obj c fs, x] (fun r => ∃ b, r.1 = .bl b ∧ Q b) E
    | _ => False
  | .NotIn, x, .obj c fs => match gl.lookup (clsKey c "__contains__") with
    | some (.me c' m' n mm _) => (c' = c ∧ m' = "__contains__") ∧ callD n mm [.obj c fs, x] (fun r => ∃ b, r.1 = .bl b ∧ Q (!b)) E
    | _ => False
  | op, x, y => cmpM op x y Q E
section
variable {X : Cx} {E : EX} {g : Sg} {pins : List (Addr × Obj)} {σ : L2.St} {H Fz F1 : Hp} {s : Shared} {ρ : Env} {Q : D × Bool → Prop} {Q' : VK} {c m : Str} {n : Nat} {mm : List D → M D} {kw : List (Nat × List Str × List Nat)}
theorem run_dun1 (ok : SgOk X g E) (el : g.gl.lookup (clsKey c m) = some (.me c m n mm kw)) {H1 : Hp} (g1 : Grow Fz H F1 H1) (I : Inv X pins σ H1 s) {vs : List V} {us : List Value} {ds : List D} (rv : Vals vs us) (r1 : RepL X.K F1 vs ds)
    (kq : ∀ v H' F' r, Grow Fz H F' H' → Val X.K F' H' H v r → Q r → Q' v H') (q : callD n mm ds Q (fun _ => False)) {Ex : Value → Shared → Prop} : ∃ C f, ClsAt X.K c C ∧ Cls X.K C ∧ Meth X.K C m f ∧ wpAny (model X.prog X.w) X.A.in1 (call (.ref f) us) (EP X pins σ Q') Ex s := by
  obtain ⟨C, k, f, fd, ps, hc, hcl, hme, F, hr, hb, rfl, _⟩ := ok.gl _ _ el
  refine ⟨C, f, hc, hcl, hme, ?_⟩
  have l : us.length = ps.length := by rw [← rv.length, r1.length]; exact q.1
  have b := hb s us I.kIn (by rw [List.append_nil]; exact l)
  rw [List.append_nil] at b
  have h : SpF false X.K ps.length mm vs H1 Q' (fun _ _ _ => False) := sp_of (fl := false) kq g1 r1 q fun _ _ _ _ _ _ _ z => z
  refine wpAny_call (codeAny_mono (F.run X.A.in1 X.stack s H1 ⟨us, []⟩ us vs Q' (fun _ _ _ => False) hr.in1 ok.gd I.env0.in1 b rv h) fun r s' hq => ?_)
  rcases r with er | fl
  · exact (cx_no hq).elim
  · cases fl with
    | ret w => exact I.after hq
    | next => exact hq.elim
    | brk => exact hq.elim
    | cont => exact hq.elim
end
theorem val_bl {K : PySem.W.Frag} {F H H0 : Hp} {v : V} {r : D × Bool} {b : Bool} (h : Val K F H H0 v r) (e : r.1 = .bl b) : v = .bl b := by
  have := h.bor
  rw [e] at this
  exact this.bl
theorem nf_of {K : PySem.W.Frag} {C : Addr} {T : Value} (h : T = .ref C ∨ ((T == .ref C) = false ∧ PySem.W.subIn K T (.ref C) = some false)) : PySem.W.notFirst K C T = true := by
  unfold PySem.W.notFirst
  rcases h with rfl | ⟨_, h⟩
  · simp
  · rw [h]; simp
theorem hasNe_is {X : Cx} {g : Sg} {E : EX} (ok : SgOk X g E) {c : Str} {C : Addr} (hc : ClsAt X.K c C) (h : hasNe g.gl c = true) : PySem.W.findIn X.K (.ref C) "__ne__" = some (some (.builtin "object.__ne__")) := by
  unfold hasNe at h
  split at h
  · rename_i c' os ne el
    rw [Bool.and_eq_true, decide_eq_true_eq] at h
    obtain ⟨rfl, h⟩ := h
    obtain ⟨C', hc', _, ho⟩ := ok.gl _ _ el
    have := hc'.one hc
    subst this
    exact ho h
  · cases h
theorem cmO_run {X : Cx} {E : EX} {g : Sg} (ok : SgOk X g E) {pins : List (Addr × Obj)} {σ : L2.St} {H Fz : Hp} {ρ : Env} {Qb : Bool → Prop} {Q' : VK} {op : CmpOp} {d d2 : D} {x y : V} {v u : Value} {s2 : Shared} {F2 H2 : Hp} (re : REnv X.K E.B E.F0 Fz H σ ρ) (g2 : Grow Fz H F2 H2) (I2 : Inv X pins σ H2 s2) (rx : RelV x v) (ry : RelV y u)
    (b1 : Rep X.K F2 x d) (b2 : Rep X.K F2 y d2) (kq : ∀ b H' F', Grow Fz H F' H' → Qb b → Q' (.bl b) H') (q : cmpO g.gl op d d2 Qb (E.at ρ)) : wpAny (model X.prog X.w) X.A (compareOp op v u) (EP X pins σ Q') X.xe s2 := by
  have hu : X.A.units + 65 < cLine := Nat.lt_of_le_of_lt (Nat.add_le_add_left (by decide) _) ok.un
  have hu0 : X.A.units + 1 < cLine := by omega
  have inst : ∀ {a : Addr} {c : Str} {gs : List (Str × V)} {C : Addr}, ObjAt X.K F2 a c gs → ClsAt X.K c C → ∃ ox od, PySem.W.InstAt s2.heap a ox C (some od) := fun {a c gs C} oa hc => by
    obtain ⟨C', dx, hc', hi⟩ := oa
    have := hc.one hc'
    subst this
    obtain ⟨mA, O, _⟩ := ins_get I2.hok (g2.fh _ _ hi)
    obtain ⟨od, J, _⟩ := O.look
    exact ⟨_, od, J⟩
  obtain ⟨mF, hF⟩ := I2.fr
  unfold cmpO at q
  split at q
  · rename_i c fs
    split at q
    · rename_i c' m' n mm kw el
      obtain ⟨⟨rfl, rfl⟩, hR, q⟩ := q
      cases b1 with
      | @obj a _ gs _ oa rf =>
        cases rx
        have rr : RepL X.K F2 [V.ref a, y] [.obj c' fs, d2] := .cons (.obj oa rf) (.cons b2 .nil)
        have rv : Vals [V.ref a, y] [Value.ref a, u] := .cons rfl (.cons ry .nil)
        obtain ⟨C, f, hc, hcl, hme, run⟩ := run_dun (Q' := fun w H' => ∃ b, w = .bl b ∧ Q' (.bl b) H') ok el re g2 I2 rv rr (fun w H' F' r g3 v3 ⟨b, e, qb⟩ => ⟨b, val_bl v3 e, kq b H' F' g3 qb⟩) q
        obtain ⟨ox, od, J⟩ := inst oa hc
        obtain ⟨T, L, cs, _⟩ := rOk_ok ok g2.fh (.inl b2) I2 ry hR hc
        refine PySem.W.cmp_K (op := .Eq) (by omega) hF I2.ok.mod.kin J L (nf_of cs) hme.at_ hme.fn (thn run fun r s' ⟨w, H3, I3, rw, b, e, q3⟩ => ?_)
        subst e
        exact relV_back rw ⟨.bl b, H3, I3, rw, q3⟩
    · exact q.elim
  · rename_i c fs
    split at q
    · rename_i c' m' n mm kw el
      obtain ⟨⟨rfl, rfl⟩, hR, q⟩ := q
      rw [Bool.and_eq_true] at hR
      cases b1 with
      | @obj a _ gs _ oa rf =>
        cases rx
        have rr : RepL X.K F2 [V.ref a, y] [.obj c' fs, d2] := .cons (.obj oa rf) (.cons b2 .nil)
        have rv : Vals [V.ref a, y] [Value.ref a, u] := .cons rfl (.cons ry .nil)
        obtain ⟨C, f, hc, hcl, hme, run⟩ := run_dun1 (Ex := X.xe) (Q' := fun w H' => ∃ b, w = .bl b ∧ Q' (.bl (!b)) H') ok el g2 I2 rv rr (fun w H' F' r g3 v3 ⟨b, e, qb⟩ => ⟨b, val_bl v3 e, kq _ H' F' g3 qb⟩) q
        obtain ⟨ox, od, J⟩ := inst oa hc
        obtain ⟨T, L, cs, _⟩ := rOk_ok ok g2.fh (.inl b2) I2 ry hR.1 hc
        obtain ⟨C', hc', _, hx⟩ := isCls_is ok (show isCls g.gl c' = true by have := hR.1; unfold rOk at this; rw [Bool.and_eq_true] at this; exact this.1)
        have := hc'.one hc
        subst this
        refine ne_K hu0 hF I2.ok.mod.kin J L (nf_of cs) (hasNe_is ok hc hR.2) hx.cm hme.at_ hme.fn (thn run fun r s' ⟨w, H3, I3, rw, b, e, q3⟩ => ?_)
        subst e
        cases rw
        exact ⟨b, rfl, .bl (!b), H3, I3, rfl, q3⟩
    · exact q.elim
  · rename_i c fs
    split at q
    · rename_i c' m' n mm kw el
      obtain ⟨⟨rfl, rfl⟩, q⟩ := q
      cases b2 with
      | @obj a _ gs _ oa rf =>
        cases ry
        have rr : RepL X.K F2 [V.ref a, x] [.obj c' fs, d] := .cons (.obj oa rf) (.cons b1 .nil)
        have rv : Vals [V.ref a, x] [Value.ref a, v] := .cons rfl (.cons rx .nil)
        obtain ⟨C, f, hc, hcl, hme, run⟩ := run_dun (Q' := fun w H' => ∃ b, w = .bl b ∧ Q' (.bl b) H') ok el re g2 I2 rv rr (fun w H' F' r g3 v3 ⟨b, e, qb⟩ => ⟨b, val_bl v3 e, kq b H' F' g3 qb⟩) q
        obtain ⟨ox, od, J⟩ := inst oa hc
        refine PySem.W.in_K hF I2.ok.mod.kin J hme.at_ hme.fn (thn run fun r s' ⟨w, H3, I3, rw, b, e, q3⟩ => ?_)
        subst e
        cases rw
        exact wpAny_truthy_bool ⟨.bl b, H3, I3, rfl, q3⟩
    · exact q.elim
  · rename_i c fs
    split at q
    · rename_i c' m' n mm kw el
      obtain ⟨⟨rfl, rfl⟩, q⟩ := q
      cases b2 with
      | @obj a _ gs _ oa rf =>
        cases ry
        have rr : RepL X.K F2 [V.ref a, x] [.obj c' fs, d] := .cons (.obj oa rf) (.cons b1 .nil)
        have rv : Vals [V.ref a, x] [Value.ref a, v] := .cons rfl (.cons rx .nil)
        obtain ⟨C, f, hc, hcl, hme, run⟩ := run_dun (Q' := fun w H' => ∃ b, w = .bl b ∧ Q' (.bl (!b)) H') ok el re g2 I2 rv rr (fun w H' F' r g3 v3 ⟨b, e, qb⟩ => ⟨b, val_bl v3 e, kq _ H' F' g3 qb⟩) q
        obtain ⟨ox, od, J⟩ := inst oa hc
        refine PySem.W.notIn_K hF I2.ok.mod.kin J hme.at_ hme.fn (thn run fun r s' ⟨w, H3, I3, rw, b, e, q3⟩ => ?_)
        subst e
        cases rw
        exact wpAny_truthy_bool ⟨.bl (!b), H3, I3, rfl, q3⟩
    · exact q.elim
  · exact op_cmp hu op pins s2 σ H2 x y v u Q' I2 rx ry ⟨F2, d, d2, Qb, _, g2.fh, .inl b1, .inl b2, q, fun b qb => kq b H2 F2 g2 qb⟩
def tCmO (gl : List (Str × GV)) (op : CmpOp) (a b : CB) : CT := fun ρ => bnd (a ρ) fun x => bnd (b ρ) fun y => cmpO gl op x y
section
variable {X : Cx} {E : EX} {g : Sg} {a b : Expr} {op : CmpOp} {xa xb : CB} {pos : Pos}
theorem re_cmO (ok : SgOk X g E) (ha : PE X a (rdF X.K E xa)) (hb : PE X b (rdF X.K E xb)) (hm : behindInMarks op b = false) : PE X (.Compare a [op] [b] pos) (rdV X.K E (vT (tCmO g.gl op xa xb))) := by
  refine ⟨fun pins s σ H Q' I hw => ?_⟩
  obtain ⟨Fz, ρ, Q, re, h, kq⟩ := hw
  refine wpAny_Compare1 (binT ha hb (R := fun x y H2 => ∃ F2 d d2, Grow Fz H F2 H2 ∧ Rep X.K F2 x d ∧ Rep X.K F2 y d2 ∧ cmpO g.gl op d d2 (fun k => Q (.bl k, false)) (E.at ρ)) I
    ⟨Fz, ρ, _, re, h, fun v H1 F1 d g1 b1 h1 => ⟨F1, ρ, _, re.grow g1, h1, fun u H2 F2 d2 g2 b2 q => ⟨F2, d, d2, g1.trans g2, b1.mono g2.f, b2, q⟩⟩⟩ ?_) hm
  rintro v u s2 x y H2 I2 rx ry ⟨F2, d, d2, g2, b1, b2, q⟩
  exact cmO_run ok re g2 I2 rx ry b1 b2 (fun b H' F' g3 q3 => kq (.bl b) H' F' (.bl b, false) g3 (Val.of (.bl b)) q3) q
theorem rt_cmO (ok : SgOk X g E) (ha : PE X a (rdF X.K E xa)) (hb : PE X b (rdF X.K E xb)) (hm : behindInMarks op b = false) : PT X (.Compare a [op] [b] pos) (rdT X.K E (tCmO g.gl op xa xb)) := by
  refine ⟨fun pins s σ H Q' I hw => ?_⟩
  obtain ⟨Fz, ρ, Q, re, h, kq⟩ := hw
  refine wpAny_isTrue_Compare1 (binT ha hb (f := compareOp op) (R := fun x y H2 => ∃ F2 d d2, Grow Fz H F2 H2 ∧ Rep X.K F2 x d ∧ Rep X.K F2 y d2 ∧ cmpO g.gl op d d2 Q (E.at ρ)) I
    ⟨Fz, ρ, _, re, h, fun v H1 F1 d g1 b1 h1 => ⟨F1, ρ, _, re.grow g1, h1, fun u H2 F2 d2 g2 b2 q => ⟨F2, d, d2, g1.trans g2, b1.mono g2.f, b2, q⟩⟩⟩ ?_) hm
  rintro v u s2 x y H2 I2 rx ry ⟨F2, d, d2, g2, b1, b2, q⟩
  refine thn (cmO_run (Q' := fun w H' => ∃ k, w = .bl k ∧ Q' k H') ok re g2 I2 rx ry b1 b2 (fun b H' F' g3 q3 => ⟨b, rfl, kq b H' F' g3 q3⟩) q) ?_
  rintro c s3 ⟨z, H3, I3, r3, k, e, q3⟩
  subst e
  cases r3
  exact wpAny_truthy_bool ⟨H3, I3, q3⟩
end
def isEqIn : CmpOp → Bool
  | .Eq => true
  | .NotEq => true
  | .In => true
  | .NotIn => true
  | _ => false
def cmpOfO (r : Rec) (g : Sg) (e : Expr) : Option CT := match e with
  | .Compare a [op] [b] _ => if (isEqIn op && !behindInMarks op b) = true then match fOf r g a, fOf r g b with
    | some x, some y => some (tCmO g.gl op x y)
    | _, _ => none else none
  | _ => none
def vCmpO : VR := fun r g e => (cmpOfO r g e).map vT
theorem cmpOfO_ok {r : Rec} (R : RecOk r) {X : Cx} {g : Sg} {E : EX} {e : Expr} {c : CT} (ok : SgOk X g E) (h : cmpOfO r g e = some c) : PE X e (rdV X.K E (vT c)) ∧ PT X e (rdT X.K E c) := by
  unfold cmpOfO at h
  split at h
  · rename_i a op b pos
    split at h
    · rename_i hm
      rw [Bool.and_eq_true] at hm
      have hm2 : behindInMarks op b = false := by simpa using hm.2
      split at h
      · rename_i ha hb
        cases h
        exact ⟨re_cmO ok (fOf_ok R ok ha) (fOf_ok R ok hb) hm2, rt_cmO ok (fOf_ok R ok ha) (fOf_ok R ok hb) hm2⟩
      · cases h
    · cases h
  · cases h
theorem vCmpO_ok : VrOk vCmpO := by
  intro r R X g E e c ok h
  obtain ⟨t, h1, rfl⟩ := map_some h
  exact (cmpOfO_ok R ok h1).1
def vBinO : VR := fun r g e => match e with
  | .BinOp a op b _ => match fOf r g a, fOf r g b with
    | some x, some y => some (cBinO g.gl op x y)
    | _, _ => none
  | .UnaryOp .Invert a _ => (fOf r g a).map (cUnO g.gl "__invert__")
  | _ => none
theorem vBinO_ok : VrOk vBinO := by
  intro r R X g E e c ok h
  unfold vBinO at h
  split at h
  · split at h
    · cases h; exact re_binO ok (fOf_ok R ok ‹_›) (fOf_ok R ok ‹_›)
    · cases h
  · obtain ⟨a, h1, rfl⟩ := map_some h
    exact re_inv ok (fOf_ok R ok h1)
  · cases h
end DL
/-! x, *y = a tuple -/
namespace DL
open PySem L2 PySem.Spec PyProof.Rows

section
variable {prog : Program} {w : World} {A : Around} {E : Value → Shared → Prop} {s : Shared}
theorem Walks.tupFrom (hh : A.handled = none) (I t : Addr) (hne : t ≠ I) (items : Array Value) (c : Nat) (hc : c ≤ items.size) :
    Walks prog w A I [I, t] [I] (items.size - c) (fun i v => items[c + i]? = some v) (fun i h => h.IsTupleIter I t (c + i) ∧ h.IsTuple t items) where
  sub := fun b hb => by simp at hb; simp [hb]
  frame := fun _ _ _ st hk => ⟨st.1.at fun o e => hk I (by simp) o e, st.2.at fun o e => hk t (by simp) o e⟩
  item := fun i s Q E hi st hQ => by
    have hx : items[c + i]? = some (items[c + i]'(by omega)) := by simp
    refine wpAny_pyNext_tuple_item st.1 st.2 hx fun h' hit' hs' => ?_
    exact hQ _ h' s.toks hx ⟨hit', st.2.extBut hs'.extBut hne⟩ fun b o hb e => hs'.extBut b o (fun h => hb (by simp [h])) e
  done := fun s Q E st hQ => wpAny_pyNext_tuple_end hh st.1 st.2 (by simp; omega) fun h' he' => hQ h' s.toks fun b o hb e => he' b o (fun h => hb (by simp [h])) e
  self := fun _ _ _ _ st hQ => wpAny_pyIter_tupleiter st.1 hQ
theorem unpack_star {t : Addr} {its : List Value} {x : Value} {Q : List Value → Shared → Prop} (hh : A.handled = none) (ht : s.heap.IsTuple t (x :: its).toArray) (hz : its.length ≤ sizeLine)
    (hQ : ∀ (h' : Heap) (tk : Nat), (∀ b o, s.heap.get? b = some o → h'.get? b = some o) → Q [x, .ref h'.objs.size] { s with heap := h'.push { cls := .type "list", data := .seq its.toArray }, toks := tk }) : wpAny (model prog w) A (unpackItems (.ref t) 2 (some 1)) Q E s := by
  have hlt : t ≠ s.heap.objs.size := by obtain ⟨o, ho, _⟩ := ht; exact Nat.ne_of_lt (Heap.lt_size ho)
  unfold unpackItems
  refine wpAny_bind ?_
  unfold notIterableAtAll
  refine wpAny_bind (wpAny_specialOf ht.typeIs F.slot_tuple_iter.lookup ?_)
  refine wpAny_pure ?_
  simp only [Bool.false_eq_true, if_false]
  refine wpAny_bind (wpAny_holding (wpAny_pyIter_tuple ht ?_))
  refine wpAny_bind (wpAny_holding (wpAny_draw_tuple hlt 1 0 _ _ ⟨_, Heap.get?_push_size _ rfl, rfl, rfl⟩ (ht.push _) (by simp) fun h₁ hit₁ hs₁ => ?_))
  have hall : List.take 1 (List.drop 0 (x :: its).toArray.toList) = [x] := by simp
  rw [hall]
  rw [if_neg (by simp)]
  have ht₁ : h₁.IsTuple t (x :: its).toArray := (ht.push _).extBut hs₁.extBut hlt
  have W := (Walks.tupFrom (prog := prog) (w := w) (A := A.in1) hh s.heap.objs.size t hlt (x :: its).toArray 1 (by simp)).toS
  have lt1 : s.heap.objs.size < h₁.objs.size := by obtain ⟨o, ho, _⟩ := hit₁; exact Heap.lt_size ho
  have lt2 : t < h₁.objs.size := by obtain ⟨o, ho, _⟩ := ht₁; exact Heap.lt_size ho
  refine wpAny_bind (wpAny_holding (wpAny_collect_iter (T := "tuple_iterator") (.inr (.inr (.inr rfl))) W (fun i s st => st.1.typeIs) ⟨hit₁, ht₁⟩ ?_ (by simp) ?_ ?_))
  · intro b hb
    simp only [List.mem_cons, List.not_mem_nil, or_false] at hb
    rcases hb with rfl | rfl
    · exact lt1
    · exact lt2
  · intro s' acc mv ho
    have e : acc.toList = its := by
      apply List.ext_getElem?
      intro i
      have hsz : acc.size = its.length := by have := ho.1; simpa using this
      by_cases hi : i < its.length
      · have h1 : acc[i]? = some (acc[i]'(by rw [hsz]; exact hi)) := by simp
        have h2 : (x :: its).toArray[1 + i]? = some (acc[i]'(by rw [hsz]; exact hi)) := ho.2 i _ h1
        have h3 : (x :: its).toArray[1 + i]? = its[i]? := by simp [Nat.add_comm 1 i]
        rw [h3] at h2
        rw [h2, ← h1]
        simp
      · rw [List.getElem?_eq_none (by simpa [hsz] using Nat.le_of_not_lt hi), List.getElem?_eq_none (Nat.le_of_not_lt hi)]
    rw [e]
    rw [if_neg (by omega)]
    have z0 : its.length - (2 - 1 - 1) = its.length := by omega
    rw [z0, List.take_length, List.drop_length]
    have kk : ∀ b o, s.heap.get? b = some o → s'.heap.get? b = some o := fun b o e => by
      have hb : b ≠ s.heap.objs.size := Nat.ne_of_lt (Heap.lt_size e)
      exact mv.heap b o (by simpa using hb) (hs₁.extBut b o hb (Heap.get?_push_of_some _ e))
    obtain ⟨h', g', d', tk', os'⟩ := s'
    have e1 : g' = s.gens := mv.gens
    have e2 : d' = s.drawn := mv.drawn
    have e3 : os' = s.os := mv.os
    subst e1 e2 e3
    exact wpAny_bind (wpAny_newList (wpAny_pure (hQ h' tk' kk)) hz)
  · simpa using hz
end
/-- x, *y = a tuple -/
def gStar (K : PySem.W.Frag) (t : TGs) : TG := fun v σ H Q => ∃ a x xs, v = .ref a ∧ SqT K H a (x :: xs) ∧ ∀ l, H l = none → t [x, .ref l] σ (upd H l (.lst xs)) Q
theorem pg_star {X : Cx} {x y : Str} {px py ps pos : Pos} {k : Nat} {t : TGs} (hc : X.calm = true) (h : PGs X [.Name x px, .Name y py] t) : PG X (.Tuple [.Name x px, .Starred (.Name y py) ps] k pos) (gStar X.K t) := by
  refine ⟨fun pins s σ H v u Q I r hw => ?_⟩
  obtain ⟨a, x0, xs, e1, hq, hw⟩ := hw
  subst e1
  cases r
  obtain ⟨its, rv, ht, hz⟩ := I.tuple hq
  cases rv with
  | @cons _ u0 _ us r0 rs =>
    rw [PyProof.Rows.assign_Tuple]
    refine wpAny_bind (wpAny_standAt ?_)
    unfold unpack
    have hz' : us.length ≤ sizeLine := by
      have h2 := rs.length
      rw [List.length_cons] at hz
      omega
    refine wpAny_bind (wpAny_holding (unpack_star (x := u0) (its := us) (I.ok.hd hc) ht hz' fun h' tk kk => ?_))
    have I1 : Inv X pins σ H { s with heap := h', toks := tk } := I.kept (t' := tk) kk
    have hf : H h'.objs.size = none := I1.hok.fresh (Nat.le_refl _)
    have I2 : Inv X pins σ (upd H h'.objs.size (.lst xs)) { s with heap := h'.push { cls := .type "list", data := .seq us.toArray }, toks := tk } :=
      I1.laid (t' := tk) (fun b u e => Heap.get?_push_of_some _ e) (Nat.le_refl _) ⟨by rw [rs.length]; exact hz', us, 0, rs, Heap.get?_push_size _ rfl⟩
    have rv2 : Vals [x0, V.ref h'.objs.size] [u0, Value.ref h'.objs.size] := .cons r0 (.cons rfl .nil)
    exact h.run pins _ σ _ _ _ Q I2 rv2 (hw _ hf)
def sStar (i j : Nat) (c : CB) : CS := fun ρ W E => c ρ (fun d => match d with
  | .tup (x :: xs) => W.nx ((ρ.set i (.sh x)).set j (.sh (.lst xs)))
  | _ => False) (fun x => E x ρ)
def noTupE : Expr → Bool
  | .Tuple .. => false
  | _ => true
theorem noTup_st {e : Expr} {env : PySem.Env} {ts : List Expr} {k : Nat} {p : Pos} (h : noTupE e = true) : swappedStores [.Tuple ts k p] e env = pure none := by
  unfold noTupE at h
  cases e <;> first | rfl | cases h
def sStarR : SR := fun r g st => match st with
  | .Assign [.Tuple [.Name x px, .Starred (.Name y py) ps] k p] e _ => if (noComp e && noTupE e && (decide (x ∈ g.st) && decide (y ∈ g.st))) = true then match slotOf g x, slotOf g y, fOf r g e with
    | some i, some j, some c => some (sStar i j c)
    | _, _, _ => none else none
  | _ => none
theorem noComp_sws {e : Expr} {env : PySem.Env} {t : List Expr} {l : Nat} (h : noComp e = true) : swapsWithSole t e l env = pure false := by
  unfold swapsWithSole
  split <;> first | rfl | exact noComp_sw h _ _
theorem sStarR_ok : SrOk sStarR := by
  intro r R X g E st c ok hp h
  unfold sStarR at h
  split at h
  · rename_i x px y py ps k p e pos
    split at h
    · rename_i hb
      rw [Bool.and_eq_true, Bool.and_eq_true, Bool.and_eq_true, decide_eq_true_eq, decide_eq_true_eq] at hb
      obtain ⟨⟨hn, hn2⟩, hx, hy⟩ := hb
      split at h
      · rename_i i j c h1 h2 h3
        cases h
        obtain ⟨a1, a2, a3, a4⟩ := slotOf_is h1
        obtain ⟨b1, b2, b3, b4⟩ := slotOf_is h2
        obtain ⟨x1, x2⟩ := ok.st x hx
        obtain ⟨y1, y2⟩ := ok.st y hy
        have gx : PG X (.Name x px) (rdG X.K E.no [i] (gNm i)) := rg_name (by rw [ok.N]; exact ok.nd) (by rw [ok.N]; exact a1) (by rw [ok.sc]; exact x1) (by rw [ok.sc]; exact x2)
        have gy : PG X (.Name y py) (rdG X.K E.no [j] (gNm j)) := rg_name (by rw [ok.N]; exact ok.nd) (by rw [ok.N]; exact b1) (by rw [ok.sc]; exact y1) (by rw [ok.sc]; exact y2)
        have gg := pg_star (ps := ps) (pos := p) (k := k) ok.calm (rgs_cons gx (rgs_cons gy rgs_nil rfl) rfl)
        refine PS.imp (ps_asg (fOf_ok R ok h3) gg (noComp_sws hn) (noTup_st hn2) rfl) fun Dn σ H ⟨F, ρ, W, re, h, l⟩ => ?_
        refine ⟨F, ρ, _, re, h, fun v H1 F1 d g1 r1 q => ?_⟩
        split at q
        · rename_i x0 xs
          cases r1 with
          | tup h1 r1 =>
            cases r1 with
            | @cons v0 _ vs _ r0 rs =>
              refine ⟨_, v0, vs, rfl, sqT_same g1.fh h1, fun la hl => ?_⟩
              have g2 : Grow F1 H1 (upd F1 la (.lst vs)) (upd H1 la (.lst vs)) := Grow.new g1.fh hl _
              have rr : RepL X.K (upd F1 la (.lst vs)) [v0, V.ref la] [x0, .lst xs] := .cons (r0.mono g2.f) (.cons (.lst upd_same (rs.mono g2.f)) .nil)
              exact ⟨_, ρ, _, _, (re.grow g1).grow g2, rr, q, fun σ' ρ' _ _ re' q' => l.nx σ' _ _ ρ' re' q'⟩
        · exact q.elim
      · cases h
    · cases h
  · cases h
end DL
/-! the head: what is wanted of the written part, as Bools -/
namespace DL
open PySem L2 PySem.Spec PyProof.Rows

theorem walkGE {l : PySem.W.OpenLaw} {n k : Nat} {q : Program} {loose : List Str} {XP : (Str → Option Value) → Heap → Prop} {YP : World → Heap → Prop} {d : DefRec} {x : Str}
    (hn : l.most = some n) (hn2 : n ≤ sizeLine) (hdf : d.params.defaults = []) (hr : Room k callerA)
    (F : ∀ (w : World) (mg : Str → Option Value) (fa : Addr) (h : Heap), YP w h → h.Ns mainGlobals mg → mg d.name = some (.ref fa) →
      ∃ (K : PySem.W.Frag) (fd : FuncData), K.In h ∧ (∀ (s : Shared) (u : Value), BindsTo s fd ⟨[u], []⟩ [(x, u)]) ∧ ∀ base : Heap, K.In base → base.Ns mainGlobals mg → FnG l.prog w K mg base (L2.CX l.prog w) k fa fd [x] (SpM K 1 lawM))
    (hsp : ∀ (K : PySem.W.Frag) (H : Hp) (a : Addr) (ns : List Int), ns.length ≤ n → Only H → SqL K H a (ns.map V.int) → SpM K 1 lawM [.ref a] H (fun v _ => v = .bl true) fun _ _ _ => False) :
    PySem.W.WalkO q loose XP YP l.row.toRowW d [] (fun f vs => PySem.call f vs) := by
  refine Att.attach_call hn hdf ?_
  intro w s₀ s₁ mg mb fa o pm cd doc a vs ns G Y ho hd hcd hmg hobj hints hlen hg
  obtain ⟨K, fd, KX, hb, hF⟩ := F w mg fa _ Y G.T.g hmg
  exact law_callG KX G.T.g G.T.b G.T.builtins G.T.nolimit hg hobj hints (Nat.le_trans hlen hn2) hr hF hb fun H only seq => hsp _ H a ns hlen only seq

/-! ### where a def stands -/
inductive Pl where
  | g (x : Str)
  | m (c m : Str)
  | p (c f : Str)
  | s (c m : Str)
def recFst (K : PySem.W.Frag) (p : Addr) (T : String) : Addr := match PySem.W.recIn K p T with
  | some (.ref g :: _) => g
  | _ => 0
def plA (K : PySem.W.Frag) : Pl → Addr
  | .g x => He.ga K x
  | .m c m => He.ma K (He.ga K c) m
  | .p c f => recFst K (He.ma K (He.ga K c) f) "property"
  | .s c m => recFst K (He.ma K (He.ga K c) m) "staticmethod"
structure FD where
  pl : Pl
  name : Str
  qual : Str
  st : Stmt
  cls : Option Str := none
abbrev FdV : Type := Option (Str × Str × Arguments × FuncBody × Scope × Addr × List Str × Addr)
def FD.val (d : FD) : FdV := some (d.name, d.qual, defArgs d.st, .stmts (defBody d.st), defScope d.st, mainGlobals, (match d.cls with | none => [] | some _ => ["__class__"]), builtinsNs)
def fdW (K : PySem.W.Frag) (p : Pl) : FdV := match K.lookup (plA K p) with
  | some ⟨_, _, .func fd, _⟩ => some (fd.name, fd.qualname, fd.params, fd.body, fd.scope, fd.globals, fd.closure.map (·.1), fd.builtins)
  | _ => none
def isNone : Value → Bool
  | .none => true
  | _ => false
def cellB (K : PySem.W.Frag) (cl : List (Str × Addr)) (D : Addr) : Bool := match cl with
  | [(_, cc)] => (match K.lookup cc with
    | some ⟨_, _, .cell (some (.ref D')), _⟩ => decide (D' = D)
    | _ => false)
  | _ => false
def fileB (K : PySem.W.Frag) (cd : Value) (file : Str) : Bool := match cd with
  | .ref a => (match K.lookup a with
    | some ⟨_, _, .fields vs, _⟩ => (match (vs[2]? : Option Value) with
      | some (.str f _) => file == f
      | _ => false)
    | _ => false)
  | _ => false
def fdB (K : PySem.W.Frag) (file : Str) (d : FD) : Bool := PySem.W.keepIn K (.ref (plA K d.pl)) && match K.lookup (plA K d.pl) with
  | some ⟨_, _, .func fd, _⟩ => PySem.W.codeIn K fd.code d.qual && isNone fd.defaults && (match d.cls with
    | none => true
    | some D => cellB K fd.closure (He.ga K D) && (PySem.W.clsIn K (He.ga K D)).isSome && fileB K fd.code file)
  | _ => false
section
variable {K : PySem.W.Frag} {d : FD} {file : Str}
theorem fd_of (e : fdW K d.pl = d.val) (c : fdB K file d = true) : ∃ (oc : Value) (od : Option Addr) (fd : FuncData) (sl : Array (Option Value)), K.lookup (plA K d.pl) = some ⟨oc, od, .func fd, sl⟩ ∧ PySem.W.keepIn K (.ref (plA K d.pl)) = true ∧ PySem.W.codeIn K fd.code d.qual = true ∧ fd.defaults = .none ∧
    (∀ D, d.cls = some D → cellB K fd.closure (He.ga K D) = true ∧ (PySem.W.clsIn K (He.ga K D)).isSome = true ∧ fileB K fd.code file = true) ∧
    (some (fd.name, fd.qualname, fd.params, fd.body, fd.scope, fd.globals, fd.closure.map (·.1), fd.builtins) : FdV) = d.val := by
  unfold fdB at c
  rw [Bool.and_eq_true] at c
  obtain ⟨kp, c⟩ := c
  unfold fdW at e
  split at c
  · rename_i oc od fd sl lk
    rw [lk] at e
    simp only [Bool.and_eq_true] at c
    obtain ⟨⟨c1, c2⟩, c3⟩ := c
    refine ⟨oc, od, fd, sl, lk, kp, c1, ?_, fun D hD => ?_, e⟩
    · unfold isNone at c2
      split at c2
      · assumption
      · cases c2
    · rw [hD] at c3
      simp only [Bool.and_eq_true] at c3
      exact ⟨c3.1.1, c3.1.2, c3.2⟩
  · cases c
theorem fun_of (e : fdW K d.pl = d.val) (c : fdB K file d = true) (hc : d.cls = none) : ∃ fd, Fun K d.name d.qual d.st (plA K d.pl) fd := by
  obtain ⟨oc, od, fd, sl, lk, kp, c1, c2, _, e⟩ := fd_of e c
  obtain ⟨n1, n2, n3, n4, n5, n6, n7, n8, n9, n10, n11, n12, n13, n14, n15⟩ := fd
  unfold FD.val at e
  rw [hc] at e
  simp only [Option.some.injEq, Prod.mk.injEq] at e
  obtain ⟨h1, h2, h3, h4, h5, h6, h7, h8⟩ := e
  have h7 := List.map_eq_nil_iff.mp h7
  have c2 : n8 = .none := c2
  subst h1 h2 h3 h4 h5 h6 h7 h8 c2
  exact ⟨_, ⟨oc, od, n9, n10, n11, n12, n13, n14, sl, rfl, lk, c1⟩, kp⟩
theorem funS_of {P : Program} (e : fdW K d.pl = d.val) (c : fdB K P.main.file d = true) {D : Str} (hc : d.cls = some D) (ht : (P.main.scope.names.lookup ("super" : Str)).isSome = false) (hf : ∃ ar, ((defArgs d.st).posonlyargs ++ (defArgs d.st).args).head? = some ar) :
    ∃ fd cda cc, FunS P K d.name d.qual d.st (plA K d.pl) cda cc (He.ga K D) fd := by
  obtain ⟨oc, od, fd, sl, lk, kp, c1, c2, cF, e⟩ := fd_of e c
  obtain ⟨c3, c4, c5⟩ := cF D hc
  clear cF
  obtain ⟨n1, n2, n3, n4, n5, n6, n7, n8, n9, n10, n11, n12, n13, n14, n15⟩ := fd
  unfold FD.val at e
  rw [hc] at e
  simp only [Option.some.injEq, Prod.mk.injEq] at e
  obtain ⟨h1, h2, h3, h4, h5, h6, h7, h8⟩ := e
  replace c3 : cellB K n7 (He.ga K D) = true := c3
  replace c5 : fileB K n13 P.main.file = true := c5
  replace c2 : n8 = .none := c2
  unfold cellB at c3
  split at c3
  · rename_i y cc
    replace h7 : y = ("__class__" : Str) := by simpa using h7
    subst h7
    split at c3
    · rename_i oc2 od2 D' sl2 lk2
      have := of_decide_eq_true c3
      subst this
      unfold fileB at c5
      split at c5
      · rename_i a
        split at c5
        · rename_i oc3 od3 vs sl3 lk3
          split at c5
          · rename_i f tf hv
            subst h1 h2 h3 h4 h5 h6 h8 c2
            exact ⟨_, a, cc, ⟨oc, od, n9, n10, n11, n12, n14, sl, rfl, lk, c1⟩, kp, ⟨oc3, od3, vs, sl3, f, tf, lk3, hv, c5⟩, ht, ⟨oc2, od2, sl2, lk2⟩, c4, hf⟩
          · cases c5
        · cases c5
      · cases c5
    · cases c3
  · cases c3
end
end DL
/-! facts of the written part, by one look -/
namespace DL
open PySem L2 PySem.Spec PyProof.Rows

inductive Cv where
  | non | bl (b : Bool) | int (i : Int) | str (x : Str)
def Cv.v : Cv → V
  | .non => .non
  | .bl b => .bl b
  | .int i => .int i
  | .str x => .str x
def Cv.d : Cv → D
  | .non => .non
  | .bl b => .bl b
  | .int i => .int i
  | .str x => .str x
theorem Cv.rep {K : PySem.W.Frag} {F : Hp} : ∀ c : Cv, Rep K F c.v c.d
  | .non => .non
  | .bl b => .bl b
  | .int i => .int i
  | .str x => .str x
inductive KF where
  | free (x : Str)
  | con (x : Str) (v : Cv)
  | tup (x : Str) (zs : List Str)
  | glo (x : Str)
  | cls (c : Str) (fl : List Str)
  | me (c m : Str) (pl : Pl)
  | pr (c f : Str) (pl : Pl)
  | ini (c : Str) (pl : Pl)
  | spi (c dn : Str) (pl : Pl)
  | cc (c f : Str) (v : Cv)
  | stm (c m : Str)
  | isa (c d : Str) (b : Bool)
  | ops (c : Str) (os : List Operator) (ne : Bool)
  | any
  | xc (c : Str) (fo : Option Str) (pl : Pl)
  | xb (c : Str)
  | xis (c d : Str) (b : Bool)
  | xit (c : Str) (T : String) (b : Bool)
def oo (a b : Option (Option Value)) : Bool := decide (a = b)
def firstRef (o : Option (List Value)) (g : Addr) : Bool := match o with
  | some (.ref h :: _) => decide (h = g)
  | _ => false
def isGet (o : Option PySem.W.CFound) (p C : Addr) : Bool := match o with
  | some (.get (.builtin id) (.ref p') .none (.ref C')) => decide (id = "staticmethod.__get__") && decide (p' = p) && decide (C' = C)
  | _ => false
def tyT : Value := .type "type"
/-- what is asked of a class of errors -/
def oexB (K : PySem.W.Frag) (C : Addr) : Bool := (match K.lookup C with
    | some ⟨.type "type", _, .cls cd, sl⟩ => (match cd.mro, sl.toList with
      | .ref C' :: bm, [_, _, _, _, some (.builtin n), _] => C' == C && n == "ValueError.__new__" && !cd.hasDel && cd.hasDict && PySem.HandSPX.refsVE bm
      | _, _ => false)
    | _ => false) && oo (PySem.W.findIn K (.ref C) "__setattr__") (some (some (.builtin "object.__setattr__"))) && decide (PySem.W.subIn K (.ref C) (.type "BaseException") = some true) && decide (PySem.W.typeIn K (.ref C) = some (.type "type")) && PySem.W.keepIn K (.ref C)
theorem oexB_ok {K : PySem.W.Frag} {C : Addr} (h : oexB K C = true) : OexC K C := by
  unfold oexB at h
  simp only [Bool.and_eq_true, decide_eq_true_eq] at h
  obtain ⟨⟨⟨⟨h1, h2⟩, h3⟩, h4⟩, h5⟩ := h
  refine ⟨?_, of_decide_eq_true h2, h3, h4, h5⟩
  split at h1
  · rename_i dd cd sl ho
    split at h1
    · rename_i C' bm k0 k1 k2 k3 n k5 hm hs
      simp only [Bool.and_eq_true, beq_iff_eq, Bool.not_eq_true'] at h1
      obtain ⟨⟨⟨⟨rfl, rfl⟩, hdel⟩, hdct⟩, ht⟩ := h1
      obtain ⟨nm, bs, mro, ns, qn, hd, sn, sub, ab, col, del⟩ := cd
      dsimp only at hm hdel hdct
      subst hm hdel hdct
      have hsl : sl = #[k0, k1, k2, k3, some (.builtin "ValueError.__new__"), k5] := by
        obtain ⟨l⟩ := sl
        simp only at hs
        rw [hs]
      subst hsl
      exact ⟨nm, qn, ns, bs, bm, sn, sub, ab, col, dd, k0, k1, k2, k3, k5, ho, ht⟩
    · cases h1
  · cases h1
def xcB (K : PySem.W.Frag) (C : Addr) : Bool := oexB K C && decide (PySem.W.mroIn K C (.ref C) = some true) && decide (PySem.W.subIn K (.ref C) (.type "ValueError") = some true) && oo (PySem.W.ks_superIn K C C "__init__") (some (some (.builtin "ValueError.__init__"))) && oo (PySem.W.nsIn K cStatics "thirdparty.any") (some none)
theorem xcB_ok {K : PySem.W.Frag} {C : Addr} (h : xcB K C = true) : XC K C := by
  unfold xcB at h
  simp only [Bool.and_eq_true, decide_eq_true_eq] at h
  obtain ⟨⟨⟨⟨h1, h2⟩, h3⟩, h4⟩, h5⟩ := h
  exact ⟨oexB_ok h1, h2, h3, of_decide_eq_true h4, of_decide_eq_true h5⟩
def excB (K : PySem.W.Frag) (C : Addr) : Bool := xfB K C && oo (PySem.W.findIn K (.ref C) "__class__") (some (some (.builtin "object.__class__"))) && oo (PySem.W.specialIn K (.builtin "object.__class__") "__get__") (some (some (.builtin "getset_descriptor.__get__"))) &&
  decide (PySem.W.takesIn K (.builtin "object.__class__") = some true) && decide (PySem.W.mroIn K C (.type "object") = some true)
theorem excB_ok {K : PySem.W.Frag} {C : Addr} (h : excB K C = true) : ExcC K C ∧ XfC K C := by
  unfold excB at h
  simp only [Bool.and_eq_true, decide_eq_true_eq] at h
  obtain ⟨⟨⟨⟨h1, h2⟩, h3⟩, h4⟩, h5⟩ := h
  have x := xfB_ok h1
  exact ⟨⟨x.ga, x.gg, x.exC, x.hdC, of_decide_eq_true h2, of_decide_eq_true h3, h4, h5⟩, x⟩
def KF.ok (K : PySem.W.Frag) : KF → Bool
  | .free x => oo (PySem.W.nsIn K mainGlobals x) (some none)
  | .con x v => (match PySem.W.nsIn K mainGlobals x with
    | some (some u) => He.relB v.v u
    | _ => false)
  | .tup x zs => (match K.lookup (He.ga K x) with
    | some ⟨.type c, _, .seq its _, _⟩ => decide (c = "tuple") && (decide (its.size ≤ sizeLine) && He.relAll (zs.map V.str) its.toList)
    | _ => false) && oo (PySem.W.nsIn K mainGlobals x) (some (some (.ref (He.ga K x))))
  | .glo x => oo (PySem.W.nsIn K mainGlobals x) (some (some (.ref (He.ga K x))))
  | .cls c fl => oo (PySem.W.nsIn K mainGlobals c) (some (some (.ref (He.ga K c)))) && clsXB K (He.ga K c) && fl.all fun f => oo (PySem.W.findIn K (.ref (He.ga K c)) f) (some none)
  | .me c m pl => oo (PySem.W.findIn K (.ref (He.ga K c)) m) (some (some (.ref (plA K pl)))) && PySem.W.isFn K (.ref (plA K pl)) && PySem.W.keepIn K (.ref (plA K pl))
  | .pr c f pl => oo (PySem.W.findIn K (.ref (He.ga K c)) f) (some (some (.ref (He.ma K (He.ga K c) f)))) && oo (PySem.W.specialIn K (.ref (He.ma K (He.ga K c) f)) "__get__") (some (some (.builtin "property.__get__"))) &&
      decide (PySem.W.takesIn K (.ref (He.ma K (He.ga K c) f)) = some true) && firstRef (PySem.W.recIn K (He.ma K (He.ga K c) f) "property") (plA K pl)
  | .ini c pl => PySem.W.makesIn K (He.ga K c) && oo (PySem.W.findIn K (.ref (He.ga K c)) "__init__") (some (some (.ref (plA K pl)))) && PySem.W.isFn K (.ref (plA K pl)) && PySem.W.keepIn K (.ref (He.ga K c))
  | .spi c dn pl => decide (PySem.W.mroIn K (He.ga K c) (.ref (He.ga K dn)) = some true) && oo (PySem.W.ks_superIn K (He.ga K c) (He.ga K dn) "__init__") (some (some (.ref (plA K pl)))) && decide (PySem.W.typeIn K (.ref (plA K pl)) = some (.type "function")) && PySem.W.fnIn K (plA K pl)
  | .cc c f v => (match PySem.W.findIn K (.ref (He.ga K c)) f with
    | some (some u) => He.relB v.v u && oo (PySem.W.specialIn K u "__get__") (some none)
    | _ => false) && !PySem.W.copiedNames.contains f
  | .stm c m => PySem.W.readsIn K (He.ga K c) tyT && oo (PySem.W.specialIn K (.ref (He.ga K c)) "__getattribute__") (some (some (.builtin "type.__getattribute__"))) && isGet (PySem.W.findCls K (.ref (He.ga K c)) tyT m) (He.ma K (He.ga K c) m) (He.ga K c) &&
      firstRef (PySem.W.recIn K (He.ma K (He.ga K c) m) "staticmethod") (plA K (.s c m)) && PySem.W.fnIn K (plA K (.s c m)) && PySem.W.keepIn K (.ref (plA K (.s c m)))
  | .isa c d b => decide (PySem.W.kitOne K (.ref (He.ga K c)) (.ref (He.ga K d)) = some b)
  | .ops c os ne => (os.all fun op => opB K (He.ga K c) op) && (!ne || oo (PySem.W.findIn K (.ref (He.ga K c)) "__ne__") (some (some (.builtin "object.__ne__"))))
  | .any => oo (PySem.W.nsIn K cStatics "thirdparty.any") (some none)
  | .xc c fo pl => oo (PySem.W.nsIn K mainGlobals c) (some (some (.ref (He.ga K c)))) && xcB K (He.ga K c) && excB K (He.ga K c) && oo (PySem.W.findIn K (.ref (He.ga K c)) "__init__") (some (some (.ref (plA K pl)))) && decide (PySem.W.typeIn K (.ref (plA K pl)) = some (.type "function")) &&
      (match fo with | none => true | some f => oo (PySem.W.findIn K (.ref (He.ga K c)) f) (some none))
  | .xb c => oo (PySem.W.nsIn K mainGlobals c) (some (some (.ref (He.ga K c)))) && decide (PySem.W.kitCls K (.type "int") (.ref (He.ga K c)) = some false)
  | .xis c d b => oo (PySem.W.nsIn K mainGlobals c) (some (some (.ref (He.ga K c)))) && oo (PySem.W.nsIn K mainGlobals d) (some (some (.ref (He.ga K d)))) && decide (PySem.W.kitOne K (.ref (He.ga K c)) (.ref (He.ga K d)) = some b) && decide (PySem.W.exmOne K (.ref (He.ga K c)) (.ref (He.ga K d)) = some b)
  | .xit c T b => oo (PySem.W.nsIn K mainGlobals c) (some (some (.ref (He.ga K c)))) && decide (PySem.W.kitOne K (.ref (He.ga K c)) (.type T) = some b)
theorem oo_ok {a b : Option (Option Value)} (h : oo a b = true) : a = b := of_decide_eq_true h
theorem firstRef_ok {o : Option (List Value)} {g : Addr} (h : firstRef o g = true) : ∃ rest, o = some (.ref g :: rest) := by
  unfold firstRef at h
  split at h
  · have := of_decide_eq_true h; subst this; exact ⟨_, rfl⟩
  · cases h
theorem isGet_ok {o : Option PySem.W.CFound} {p C : Addr} (h : isGet o p C = true) : o = some (.get (.builtin "staticmethod.__get__") (.ref p) .none (.ref C)) := by
  unfold isGet at h
  split at h
  · simp only [Bool.and_eq_true, decide_eq_true_eq] at h
    obtain ⟨⟨rfl, rfl⟩, rfl⟩ := h
    rfl
  · cases h
section
variable {P : Program} {w : World} {K : PySem.W.Frag} {h : Heap} {mg : Str → Option Value} {base : Heap} {k : Nat} {c dn m f x : Str} {pl : Pl}
theorem kf_clsAt {fl : List Str} (e : (KF.cls c fl).ok K = true) : ClsAt K c (He.ga K c) ∧ ClsX K (He.ga K c) ∧ ∀ f ∈ fl, NoAttr K (He.ga K c) f := by
  unfold KF.ok at e
  simp only [Bool.and_eq_true] at e
  obtain ⟨⟨e1, e2⟩, e3⟩ := e
  exact ⟨oo_ok e1, clsXB_ok e2, fun f hf => oo_ok (List.all_eq_true.mp e3 f hf)⟩
theorem kf_glo (X : K.In h) (G : h.Ns mainGlobals mg) (e : (KF.glo x).ok K = true) : mg x = some (.ref (He.ga K x)) := PySem.W.mg_of X G (oo_ok e)
theorem kf_mg {c : Str} (X : K.In h) (G : h.Ns mainGlobals mg) (e : ClsAt K c (He.ga K c)) : mg c = some (.ref (He.ga K c)) := PySem.W.mg_of X G e
theorem kf_free (X : K.In h) (G : h.Ns mainGlobals mg) (e : (KF.free x).ok K = true) : mg x = none := PySem.W.mg_none_of X G (oo_ok e)
theorem gv_con (X : K.In h) (G : h.Ns mainGlobals mg) {v : Cv} (e : (KF.con x v).ok K = true) : GvB P w K mg base k x (.cv v.d) := by
  unfold KF.ok at e
  dsimp only at e
  split at e
  · rename_i u hu
    exact ⟨v.v, u, PySem.W.mg_of X G hu, He.relB_ok e, fun F => v.rep⟩
  · cases e
theorem gv_tup (X : K.In h) (G : h.Ns mainGlobals mg) {zs : List Str} (e : (KF.tup x zs).ok K = true) : GvB P w K mg base k x (.cv (.tup (zs.map .str))) := by
  unfold KF.ok at e
  simp only [Bool.and_eq_true] at e
  obtain ⟨e1, e2⟩ := e
  split at e1
  · rename_i c od its n sl lk
    simp only [Bool.and_eq_true, decide_eq_true_eq] at e1
    obtain ⟨rfl, e3, e4⟩ := e1
    exact GvB.strs (PySem.W.mg_of X G (oo_ok e2)) lk e3 (He.relAll_ok e4)
  · cases e1
theorem gv_cls (X : K.In h) (G : h.Ns mainGlobals mg) {fl : List Str} (e : (KF.cls c fl).ok K = true) : GvB P w K mg base k c (.cls fl) := by
  obtain ⟨e1, e2, e3⟩ := kf_clsAt e
  exact ⟨_, e1, kf_mg X G e1, e2, e3⟩
theorem kf_me (e : (KF.me c m pl).ok K = true) : Meth K (He.ga K c) m (plA K pl) := by
  unfold KF.ok at e
  simp only [Bool.and_eq_true] at e
  obtain ⟨⟨e1, e2⟩, e3⟩ := e
  exact ⟨oo_ok e1, e2, e3⟩
theorem kf_pr (e : (KF.pr c f pl).ok K = true) : PropOf K (He.ga K c) f (He.ma K (He.ga K c) f) (plA K pl) := by
  unfold KF.ok at e
  simp only [Bool.and_eq_true, decide_eq_true_eq] at e
  obtain ⟨⟨⟨e1, e2⟩, e3⟩, e4⟩ := e
  exact ⟨oo_ok e1, oo_ok e2, e3, firstRef_ok e4⟩
theorem kf_ini (e : (KF.ini c pl).ok K = true) : Mk K (He.ga K c) (plA K pl) := by
  unfold KF.ok at e
  simp only [Bool.and_eq_true] at e
  obtain ⟨⟨⟨e1, e2⟩, e3⟩, e4⟩ := e
  exact ⟨e1, oo_ok e2, e3, e4⟩
theorem kf_spi (e : (KF.spi c dn pl).ok K = true) : PySem.W.mroIn K (He.ga K c) (.ref (He.ga K dn)) = some true ∧ PySem.W.ks_superIn K (He.ga K c) (He.ga K dn) "__init__" = some (some (.ref (plA K pl))) ∧ PySem.W.typeIn K (.ref (plA K pl)) = some (.type "function") ∧ PySem.W.fnIn K (plA K pl) = true := by
  unfold KF.ok at e
  simp only [Bool.and_eq_true, decide_eq_true_eq] at e
  obtain ⟨⟨⟨e1, e2⟩, e3⟩, e4⟩ := e
  exact ⟨e1, oo_ok e2, e3, e4⟩
theorem kf_cc {v : Cv} (e : (KF.cc c f v).ok K = true) : ∃ u, Con K (He.ga K c) f v.v u := by
  unfold KF.ok at e
  simp only [Bool.and_eq_true] at e
  obtain ⟨e1, e2⟩ := e
  split at e1
  · rename_i u hu
    rw [Bool.and_eq_true] at e1
    exact ⟨u, hu, He.relB_ok e1.1, oo_ok e1.2, by simpa using e2⟩
  · cases e1
theorem kf_stm (e : (KF.stm c m).ok K = true) : StM K (He.ga K c) tyT m (He.ma K (He.ga K c) m) (plA K (.s c m)) := by
  unfold KF.ok at e
  simp only [Bool.and_eq_true] at e
  obtain ⟨⟨⟨⟨⟨e1, e2⟩, e3⟩, e4⟩, e5⟩, e6⟩ := e
  exact ⟨⟨e1, oo_ok e2⟩, isGet_ok e3, firstRef_ok e4, e5, e6⟩
/-! ### the table's entries -/
theorem gv_xb (X : K.In h) (G : h.Ns mainGlobals mg) {key : Str} (e : (KF.xb c).ok K = true) : GvB P w K mg base k key (.xb c) := by
  unfold KF.ok at e
  simp only [Bool.and_eq_true, decide_eq_true_eq] at e
  have hc : ClsAt K c (He.ga K c) := oo_ok e.1
  exact ⟨_, hc, kf_mg X G hc, e.2⟩
theorem gv_xis {key : Str} {b : Bool} (e : (KF.xis c dn b).ok K = true) : GvB P w K mg base k key (.xis c dn b) := by
  unfold KF.ok at e
  simp only [Bool.and_eq_true, decide_eq_true_eq] at e
  exact ⟨_, _, oo_ok e.1.1.1, oo_ok e.1.1.2, e.1.2, e.2⟩
theorem gv_xit {key : Str} {T : String} {b : Bool} (e : (KF.xit c T b).ok K = true) : GvB P w K mg base k key (.xit c T b) := by
  unfold KF.ok at e
  simp only [Bool.and_eq_true, decide_eq_true_eq] at e
  exact ⟨_, oo_ok e.1, e.2⟩
theorem gv_bt (X : K.In h) (G : h.Ns mainGlobals mg) {T : String} (e : (KF.free x).ok K = true) (hb : bootBuiltins x = some (.type T)) (hn : x ≠ "__name__") : GvB P w K mg base k x (.bt T) := ⟨kf_free X G e, hb, hn⟩
theorem gv_xc0 {q : Str} {st s1 : Stmt} {cda cc : Addr} {fd : FuncData} (X : K.In h) (G : h.Ns mainGlobals mg) (e : (KF.xc c none pl).ok K = true) (es : (KF.free "super").ok K = true) (F : FunS P K "__init__" q st (plA K pl) cda cc (He.ga K c) fd) (S : FnScopeS ["self"] ["self"] (defScope st))
    (hfst : ∃ ar : Arg, ((defArgs st).posonlyargs ++ (defArgs st).args).head? = some ar ∧ ar.arg = ("self" : Str)) (hb : defBody st = [s1]) (h1 : isSup s1 = true) (bd : Binds K fd ["self"] []) : GvB P w K mg base 2 c (.xc none) := by
  unfold KF.ok at e
  simp only [Bool.and_eq_true, decide_eq_true_eq] at e
  obtain ⟨⟨⟨⟨⟨e1, e2⟩, e3⟩, e4⟩, e5⟩, _⟩ := e
  have hc : ClsAt K c (He.ga K c) := oo_ok e1
  have xc := xcB_ok e2
  obtain ⟨x1, x2⟩ := excB_ok e3
  exact ⟨_, _, fd, 1, Nat.le_refl _, hc, kf_mg X G hc, ⟨xc, oo_ok e4, e5, fun _ => ⟨xinit0 (k := 0) F S (kf_free X G es) hfst hb h1, bd⟩, fun f z => by cases z⟩, x1, x2⟩
theorem gv_xc1 {q f : Str} {st s1 s2 : Stmt} {cda cc : Addr} {fd : FuncData} (X : K.In h) (G : h.Ns mainGlobals mg) (e : (KF.xc c (some f) pl).ok K = true) (es : (KF.free "super").ok K = true) (F : FunS P K "__init__" q st (plA K pl) cda cc (He.ga K c) fd) (S : FnScopeS ["self", f] ["self", f] (defScope st))
    (hfst : ∃ ar : Arg, ((defArgs st).posonlyargs ++ (defArgs st).args).head? = some ar ∧ ar.arg = ("self" : Str)) (hb : defBody st = [s1, s2]) (h1 : isSup s1 = true) (h2 : isFldSt "self" f f s2 = true) (hod : oddName f = false) (bd : Binds K fd ["self", f] []) (kw : KwOk K fd ["self", f] 1 [f] [0, 1]) : GvB P w K mg base 2 c (.xc (some f)) := by
  unfold KF.ok at e
  simp only [Bool.and_eq_true, decide_eq_true_eq] at e
  obtain ⟨⟨⟨⟨⟨e1, e2⟩, e3⟩, e4⟩, e5⟩, e6⟩ := e
  have hc : ClsAt K c (He.ga K c) := oo_ok e1
  have xc := xcB_ok e2
  obtain ⟨x1, x2⟩ := excB_ok e3
  exact ⟨_, _, fd, 1, Nat.le_refl _, hc, kf_mg X G hc, ⟨xc, oo_ok e4, e5, (fun z => by cases z), fun f' z => by cases z; exact ⟨oo_ok e6, xinit1 (k := 0) F S (kf_free X G es) hfst hb h1 h2 hod, bd, kw⟩⟩, x1, x2⟩
theorem gv_isa (X : K.In h) (G : h.Ns mainGlobals mg) {key : Str} {b : Bool} (hc : ClsAt K c (He.ga K c)) (hd : ClsAt K dn (He.ga K dn)) (e : (KF.isa c dn b).ok K = true) : GvB P w K mg base k key (.isa c dn b) :=
  ⟨_, _, hc, hd, kf_mg X G hd, of_decide_eq_true e⟩
theorem gv_ops {key : Str} {os : List Operator} {ne : Bool} (hc : ClsAt K c (He.ga K c)) (e : (KF.ops c os ne).ok K = true) : GvB P w K mg base k key (.ops c os ne) := by
  unfold KF.ok at e
  rw [Bool.and_eq_true] at e
  obtain ⟨e1, e2⟩ := e
  refine ⟨_, hc, fun op hop => List.all_eq_true.mp e1 op hop, fun hne => ?_⟩
  subst hne
  exact oo_ok (by simpa using e2)
theorem gv_cc {key : Str} {v : Cv} (hc : ClsAt K c (He.ga K c)) (hx : ClsX K (He.ga K c)) (e : (KF.cc c f v).ok K = true) : GvB P w K mg base k key (.cc c f v.d) := by
  obtain ⟨u, hu⟩ := kf_cc e
  exact ⟨_, v.v, u, hc, hx.cl, hu, fun F => v.rep⟩
theorem gv_me {key : Str} {fd : FuncData} {ps : List Str} {mm : List D → M D} {n j : Nat} {kw : List (Nat × List Str × List Nat)} (hc : ClsAt K c (He.ga K c)) (hx : ClsX K (He.ga K c)) (e : (KF.me c m pl).ok K = true) (F : FnG P w K mg base (L2.CX P w) j (plA K pl) fd ps (SpM K ps.length mm)) (b : Binds K fd ps []) (hn : ps.length = n) (hj : j + 1 ≤ k)
    (hk : ∀ z ∈ kw, KwOk K fd ps (z.1 + 1) z.2.1 (0 :: z.2.2.map (· + 1))) : GvB P w K mg base k key (.me c m n mm kw) :=
  ⟨_, j, _, fd, ps, hj, hc, hx.cl, kf_me e, F, b, hn, hk⟩
theorem gv_pr {key : Str} {fd : FuncData} {ps : List Str} {mm : List D → M D} {j : Nat} (hc : ClsAt K c (He.ga K c)) (hx : ClsX K (He.ga K c)) (e : (KF.pr c f pl).ok K = true) (F : FnG P w K mg base (L2.CX P w) j (plA K pl) fd ps (SpM K ps.length mm)) (b : Binds K fd ps []) (hn : ps.length = 1) (hj : j + 1 ≤ k) : GvB P w K mg base k key (.pr c f mm) :=
  ⟨_, j, _, _, fd, ps, hj, hc, hx.cl, kf_pr e, F, b, hn⟩
theorem gv_ini (X : K.In h) (G : h.Ns mainGlobals mg) {key : Str} {fd : FuncData} {ps : List Str} {mo : MO} {n j : Nat} {kw : List (Nat × List Str × List Nat)} (hc : ClsAt K c (He.ga K c)) (e : (KF.ini c pl).ok K = true) (F : FnG P w K mg base (L2.CX P w) j (plA K pl) fd ps (SpO K ps.length mo)) (b : Binds K fd ps []) (hn : ps.length = n + 1) (hj : j + 1 ≤ k)
    (hk : ∀ z ∈ kw, KwOk K fd ps (z.1 + 1) z.2.1 (0 :: z.2.2.map (· + 1))) : GvB P w K mg base k key (.ini c n mo kw) :=
  ⟨_, _, j, fd, ps, hj, hc, kf_mg X G hc, kf_ini e, F, b, hn, hk⟩
theorem gv_spi {key : Str} {fd : FuncData} {ps : List Str} {mo : MO} {n j : Nat} (hc : ClsAt K c (He.ga K c)) (hd : ClsAt K dn (He.ga K dn)) (e : (KF.spi c dn pl).ok K = true) (ea : KF.any.ok K = true) (F : FnG P w K mg base (L2.CX P w) j (plA K pl) fd ps (SpO K ps.length mo)) (b : Binds K fd ps []) (hn : ps.length = n + 1) (hj : j ≤ k) : GvB P w K mg base k key (.spi c dn n mo) := by
  obtain ⟨e1, e2, e3, e4⟩ := kf_spi e
  exact ⟨_, _, _, j, fd, ps, hj, hc, hd, e1, e2, e3, e4, oo_ok ea, F, b, hn⟩
theorem gv_stm (X : K.In h) (G : h.Ns mainGlobals mg) {key : Str} {fd : FuncData} {ps : List Str} {mm : List D → M D} {n j : Nat} {kw : List (Nat × List Str × List Nat)} (hc : ClsAt K c (He.ga K c)) (e : (KF.stm c m).ok K = true) (F : FnG P w K mg base (L2.CX P w) j (plA K (.s c m)) fd ps (SpM K ps.length mm)) (b : Binds K fd ps []) (hn : ps.length = n) (hj : j ≤ k)
    (hk : ∀ z ∈ kw, KwOk K fd ps z.1 z.2.1 z.2.2) : GvB P w K mg base k key (.stm c m n mm kw) :=
  ⟨_, _, _, tyT, j, fd, ps, hj, hc, kf_mg X G hc, kf_stm e, F, b, hn, hk⟩
theorem gv_fn (X : K.In h) (G : h.Ns mainGlobals mg) {fd : FuncData} {ps : List Str} {mm : List D → M D} {n j : Nat} {kw : List (Nat × List Str × List Nat)} (e : (KF.glo x).ok K = true) (kp : PySem.W.keepIn K (.ref (He.ga K x)) = true) (F : FnG P w K mg base (L2.CX P w) j (He.ga K x) fd ps (SpM K ps.length mm)) (b : Binds K fd ps []) (hn : ps.length = n) (hj : j ≤ k)
    (hk : ∀ z ∈ kw, KwOk K fd ps z.1 z.2.1 z.2.2) : GvB P w K mg base k x (.fn n mm kw) := ⟨j, _, fd, ps, hj, F, kf_glo X G e, kp, b, hn, hk⟩
theorem gv_fo (X : K.In h) (G : h.Ns mainGlobals mg) {fd : FuncData} {ps : List Str} {mm : List D → M D} {n j : Nat} {kw : List (Nat × List Str × List Nat)} (e : (KF.glo x).ok K = true) (kp : PySem.W.keepIn K (.ref (He.ga K x)) = true) (F : FnG P w K mg base (L2.CX P w) j (He.ga K x) fd ps (SpF true K ps.length mm)) (b : Binds K fd ps []) (hn : ps.length = n) (hj : j ≤ k)
    (hk : ∀ z ∈ kw, KwOk K fd ps z.1 z.2.1 z.2.2) : GvB P w K mg base k x (.fo n mm kw) := ⟨j, _, fd, ps, hj, F, kf_glo X G e, kp, b, hn, hk⟩
end
/-! ### the hook -/
def asR (g : Addr → Option Obj) : Nat → List Addr
  | 0 => [mainGlobals, cStatics]
  | n + 1 => He.growD g (asR g n)
abbrev AlK : Type := Bool × List FdV
def obsK (file : Str) (fs : List KF) (fn : List FD) (K : PySem.W.Frag) : AlK := ((fs.all fun f => f.ok K) && fn.all fun d => fdB K file d, fn.map fun d => fdW K d.pl)
def valK (fn : List FD) : AlK := (true, fn.map FD.val)
def SaysK (file : Str) (fs : List KF) (fn : List FD) (K : PySem.W.Frag) : Prop := obsK file fs fn K = valK fn
def obsKG (n : Nat) (file : Str) (fs : List KF) (fn : List FD) (g : Addr → Option Obj) : AlK := obsK file fs fn (He.frG g (asR g n))
def hookK (n : Nat) (file : Str) (fs : List KF) (fn : List FD) : PySem.W.Hook where
  α := AlK
  obs := fun s => obsKG n file fs fn s.heap.get?
  val := fun _ => valK fn
  says := fun _ h => ∃ K : PySem.W.Frag, K.In h ∧ SaysK file fs fn K
  of := fun _ _ e => ⟨_, He.frG_in, e⟩
  keeps := fun _ _ _ ⟨K, hK, c⟩ k => ⟨K, PySem.W.Frag.In.keeps hK k, c⟩
theorem obsKG_eq {n : Nat} {file : Str} {fs : List KF} {fn : List FD} {g : Addr → Option Obj} {s : Shared} (h : ∀ a, g a = s.heap.get? a) : obsKG n file fs fn g = (hookK n file fs fn).obs s := by
  have e : g = s.heap.get? := funext h
  rw [e] <;> rfl
section
variable {file : Str} {fs : List KF} {fn : List FD} {K : PySem.W.Frag}
theorem SaysK.fact (c : SaysK file fs fn K) (i : Nat) {f : KF} (h : fs[i]? = some f) : f.ok K = true := by
  have c1 := (Bool.and_eq_true_iff.mp (show ((fs.all fun f => f.ok K) && fn.all fun d => fdB K file d) = true from congrArg (fun z : AlK => z.1) c)).1
  exact List.all_eq_true.mp c1 f (List.mem_of_getElem? h)
theorem SaysK.def_ (c : SaysK file fs fn K) (i : Nat) {d : FD} (h : fn[i]? = some d) : fdW K d.pl = d.val ∧ fdB K file d = true := by
  have c2 := (Bool.and_eq_true_iff.mp (show ((fs.all fun f => f.ok K) && fn.all fun d => fdB K file d) = true from congrArg (fun z : AlK => z.1) c)).2
  have e : fn.map (fun d => fdW K d.pl) = fn.map FD.val := congrArg (fun z : AlK => z.2) c
  have e2 : (fn.map fun d => fdW K d.pl)[i]? = (fn.map FD.val)[i]? := by rw [e]
  rw [List.getElem?_map, List.getElem?_map, h] at e2
  exact ⟨Option.some.inj e2, List.all_eq_true.mp c2 d (List.mem_of_getElem? h)⟩
end
end DL
/-! the rules with classes; recursion -/
namespace DL
open PySem L2 PySem.Spec PyProof.Rows

def sAttM (gl : List (Str × GV)) (i : Nat) (f : Str) (c : CB) : CS := fun ρ W E => isOwO ρ i ∧ sFst gl i f c ρ W E
def rules7 : Rules where
  v := vAt2 :: (rules3.v ++ [vIso, vStm, vMake, vMeth2, vMethK])
  i := rules3.i
  s := sAtt :: sStarR :: rules3.s
theorem rules7_ok : RulesOk rules7 where
  v := fun f hf => by
    simp only [rules7, List.mem_cons, List.mem_append, List.not_mem_nil, or_false] at hf
    rcases hf with rfl | hf | rfl | rfl | rfl | rfl | rfl
    · exact @vAt2_ok
    · exact rules3_ok.v f hf
    · exact @vIso_ok
    · exact @vStm_ok
    · exact @vMake_ok
    · exact @vMeth2_ok
    · exact @vMethK_ok
  i := rules3_ok.i
  s := fun f hf => by
    simp only [rules7, List.mem_cons] at hf
    rcases hf with rfl | rfl | hf
    · exact @sAtt_ok
    · exact @sStarR_ok
    · exact rules3_ok.s f hf
/-- .. operators and == of own classes too -/
def rules8 : Rules where
  v := vBinO :: vCmpO :: rules7.v
  i := rules7.i
  s := rules7.s
  t := [cmpOfO]
theorem rules8_ok : RulesOk rules8 where
  v := fun f hf => by
    simp only [rules8, List.mem_cons] at hf
    rcases hf with rfl | rfl | hf
    · exact @vBinO_ok
    · exact @vCmpO_ok
    · exact rules7_ok.v f (by simpa [rules7] using hf)
  i := rules7_ok.i
  s := rules7_ok.s
  t := fun f hf => by
    simp only [rules8, List.mem_cons, List.not_mem_nil, or_false] at hf
    subst hf
    exact fun R _ _ _ _ _ ok h => (cmpOfO_ok R ok h).2
theorem FunS.binds {P : Program} {K : PySem.W.Frag} {x qual : Str} {st : Stmt} {f cda cc D : Addr} {fd : FuncData} {ps : List Str} (F : FunS P K x qual st f cda cc D fd)
    (h : ∀ (kV doc pm : Value) (an : Option Addr) (cdv ct : Value) (cc : Addr) (us : List Value), us.length = ps.length → bindArgs (PySem.W.ksFn x qual (defArgs st) (defBody st) (defScope st) .none kV doc pm an cdv ct cc) ⟨us, []⟩ = pure (ps.zip us)) : Binds K fd ps [] := by
  obtain ⟨oc, od, kV, doc, pm, an, ct, osl, rfl, lk, hcd⟩ := F.ex
  exact .all (h kV doc pm an _ ct cc)
theorem FunS.kw {P : Program} {K : PySem.W.Frag} {x qual : Str} {st : Stmt} {f cda cc D : Addr} {fd : FuncData} {ps ks : List Str} {n : Nat} {is : List Nat} (F : FunS P K x qual st f cda cc D fd)
    (h : ∀ (kV doc pm : Value) (an : Option Addr) (cdv ct : Value) (cc : Addr) (us ws : List Value), us.length = n → ws.length = ks.length → bindArgs (PySem.W.ksFn x qual (defArgs st) (defBody st) (defScope st) .none kV doc pm an cdv ct cc) ⟨us, ks.zip ws⟩ = pure (ps.zip (pick is (us ++ ws)))) : KwOk K fd ps n ks is := by
  obtain ⟨oc, od, kV, doc, pm, an, ct, osl, rfl, lk, hcd⟩ := F.ex
  exact ⟨fun s us ws _ hu hw => .of_eq (h kV doc pm an _ ct cc us ws hu hw)⟩
/-- .. dicts by keys -/
def rules9 : Rules where
  v := vIx2 :: rules7.v
  i := rules7.i
  s := rules7.s
theorem rules9_ok : RulesOk rules9 where
  v := fun f hf => by
    rcases List.mem_cons.mp hf with rfl | hf
    · exact @vIx2_ok
    · exact rules7_ok.v f hf
  i := rules7_ok.i
  s := rules7_ok.s
def rules10 : Rules where
  v := vIx2 :: rules8.v
  i := rules8.i
  s := rules8.s
  t := rules8.t
theorem rules10_ok : RulesOk rules10 where
  v := fun f hf => by
    rcases List.mem_cons.mp hf with rfl | hf
    · exact @vIx2_ok
    · exact rules8_ok.v f hf
  i := rules8_ok.i
  s := rules8_ok.s
  t := rules8_ok.t
section
variable {P : Program} {w : World} {K : PySem.W.Frag} {mg : Str → Option Value} {base : Heap} {k n : Nat} {f : Addr} {fd : FuncData} {ps : List Str} {fl : Bool}
theorem fng_no {sp : Sp} (h : ∀ vs H Q E, ¬ sp vs H Q E) : FnG P w K mg base (L2.CX P w) k f fd ps sp := ⟨fun vs H Q E z => (h _ _ _ _ z).elim, fun _ _ _ _ _ _ _ _ _ _ _ _ _ _ z => (h _ _ _ _ z).elim⟩
theorem fng_fail : FnG P w K mg base (L2.CX P w) k f fd ps (SpF fl K n (fun _ => fail)) := fng_no fun vs H Q E ⟨_, _, _, _, _, _, _, h, _⟩ => h
end
end DL
/-! stepping through mirrors: one lemma for each form; each leaves the rest as it is (no rewriting under what comes after) -/
namespace DL
open PySem L2

def BR (k : Bool) (A B : Prop) : Prop := if k = true then A else B
theorem br_t {A B : Prop} (h : A) : BR true A B := h
theorem br_f {A B : Prop} (h : B) : BR false A B := h
theorem br_kt {k : Bool} {A B : Prop} (e : k = true) (h : A) : BR k A B := by subst e; exact h
theorem br_kf {k : Bool} {A B : Prop} (e : k = false) (h : B) : BR k A B := by subst e; exact h
theorem br_cases {k : Bool} {A B : Prop} (h1 : k = true → A) (h2 : k = false → B) : BR k A B := by cases k; exact h2 rfl; exact h1 rfl
theorem br_dec {p : Prop} [Decidable p] {A B : Prop} (h1 : p → A) (h2 : ¬ p → B) : BR (decide p) A B := br_cases (fun e => h1 (of_decide_eq_true e)) (fun e => h2 (of_decide_eq_false e))
theorem br_dt {p : Prop} [Decidable p] {A B : Prop} (e : p) (h : A) : BR (decide p) A B := br_kt (decide_eq_true e) h
theorem br_df {p : Prop} [Decidable p] {A B : Prop} (e : ¬ p) (h : B) : BR (decide p) A B := br_kf (decide_eq_false e) h
theorem br_not {k : Bool} {A B : Prop} (h : BR k B A) : BR (!k) A B := by cases k <;> exact h
theorem br_and {k l : Bool} {A B : Prop} (h : BR k (BR l A B) B) : BR (k && l) A B := by cases k <;> exact h
theorem br_or {k l : Bool} {A B : Prop} (h : BR k A (BR l A B)) : BR (k || l) A B := by cases k <;> exact h
theorem br_same {k : Bool} {A : Prop} (h : A) : BR k A A := by cases k <;> exact h

def FST (Q : D → Prop) (r : D × Bool) : Prop := Q r.1
theorem w_fst {Q : D → Prop} {d : D} {b : Bool} (h : Q d) : FST Q (d, b) := h
def ANDK (b : CV) (ρ : Env) (Q : D × Bool → Prop) (E : Xn → Prop) (r : D × Bool) : Prop := truM r.1 (fun k => BR k (b ρ Q E) (Q r)) E
def ORK (b : CV) (ρ : Env) (Q : D × Bool → Prop) (E : Xn → Prop) (r : D × Bool) : Prop := truM r.1 (fun k => BR k (Q r) (b ρ Q E)) E
def SETK (ρ : Env) (i : Nat) (k : Bool) (nx : Env → Prop) (r : D × Bool) : Prop := nx (ρ.set i (cel k r))
def PARK (ρ : Env) (i j : Nat) (ki kj : Bool) (nx : Env → Prop) (r q : D × Bool) : Prop := nx ((ρ.set i (cel ki r)).set j (cel kj q))
def APPK (ρ : Env) (i : Nat) (d : D) (nx : Env → Prop) : Prop := match ρ[i]? with
  | some (.ow (.lst xs) z) => xs.length < sizeLine ∧ nx (ρ.set i (.ow (.lst (xs ++ [d])) z))
  | _ => False
def METHK (gl : List (Str × GV)) (m : Str) (l : CL) (ρ : Env) (Q : D × Bool → Prop) (E : Xn → Prop) (o : D) : Prop := match o with
  | .obj c fs => match gl.lookup (clsKey c m) with
    | some (.me c' m' n mm _) => (c' = c ∧ m' = m ∧ fs.lookup m = none) ∧ l ρ (fun ds => callD n mm (.obj c fs :: ds) Q E) E
    | _ => False
  | _ => False
def STARK (ρ : Env) (i j : Nat) (nx : Env → Prop) (d : D) : Prop := match d with
  | .tup (x :: xs) => nx ((ρ.set i (.sh x)).set j (.sh (.lst xs)))
  | _ => False
def ATTK (ρ : Env) (i : Nat) (c f : Str) (fs : List (Str × D)) (z : Option Addr) (nx : Env → Prop) (d : D) : Prop := nx (ρ.set i (.ow (.obj c (putFD f d fs)) z))
theorem cel_f {r : D × Bool} : cel false r = .sh r.1 := rfl
theorem cel_t {d : D} : cel true (d, true) = .ow d none := rfl
theorem cel_tf {d : D} : cel true (d, false) = .sh d := rfl

section
variable {ρ ρ' : Env} {nx bk ct : Env → Prop} {rt ro : D → Env → Prop} {W : EndD} {EE : Xn → Env → Prop} {a b c1 : CS} {c c2 : CV} {xa xb xc : CB} {t t2 : CT} {g : CG} {i j : Nat} {d d2 : D} {k k2 bb bb2 : Bool}
/-! statements -/
theorem w_nil (h : nx ρ) : sNil ρ ⟨nx, rt, bk, ct, ro⟩ EE := h
theorem w_seq (h : a ρ ⟨fun ρ' => b ρ' ⟨nx, rt, bk, ct, ro⟩ EE, rt, bk, ct, ro⟩ EE) : sSeq a b ρ ⟨nx, rt, bk, ct, ro⟩ EE := h
theorem w_drop (h : c ρ (fun _ => nx ρ) (fun x => EE x ρ)) : sDrop c ρ ⟨nx, rt, bk, ct, ro⟩ EE := h
theorem w_set (h : c ρ (SETK ρ i k nx) (fun x => EE x ρ)) : sSet i k c ρ ⟨nx, rt, bk, ct, ro⟩ EE := h
theorem w_setk (e : ρ.set i (cel k (d, bb)) = ρ') (h : nx ρ') : SETK ρ i k nx (d, bb) := by subst e; exact h
theorem w_par {ki kj : Bool} (h : c ρ (fun r => c2 ρ (PARK ρ i j ki kj nx r) (fun x => EE x ρ)) (fun x => EE x ρ)) : sPar i j ki kj c c2 ρ ⟨nx, rt, bk, ct, ro⟩ EE := h
theorem w_park {ki kj : Bool} (e : (ρ.set i (cel ki (d, bb))).set j (cel kj (d2, bb2)) = ρ') (h : nx ρ') : PARK ρ i j ki kj nx (d, bb) (d2, bb2) := by subst e; exact h
theorem w_asg (h : xa ρ (fun d => g d ρ nx (fun _ => False)) (fun x => EE x ρ)) : sAsg g xa ρ ⟨nx, rt, bk, ct, ro⟩ EE := h
theorem w_ret (h : xa ρ (fun d => rt d ρ) (fun x => EE x ρ)) : sRet xa ρ ⟨nx, rt, bk, ct, ro⟩ EE := h
theorem w_retN (h : rt .non ρ) : sRetN ρ ⟨nx, rt, bk, ct, ro⟩ EE := h
theorem w_retO {z : Option Addr} (e : ρ[i]? = some (.ow d z)) (h : ro d ρ) : sRetO i ρ ⟨nx, rt, bk, ct, ro⟩ EE := by unfold sRetO; rw [e]; exact h
theorem w_if (h : t ρ (fun k => BR k (a ρ W EE) (b ρ W EE)) (fun x => EE x ρ)) : sIf t a b ρ W EE := h
theorem w_brk (h : bk ρ) : sBrk ρ ⟨nx, rt, bk, ct, ro⟩ EE := h
theorem w_cnt (h : ct ρ) : sCnt ρ ⟨nx, rt, bk, ct, ro⟩ EE := h
theorem w_for {it : CI} (h : it ρ (fun ds => forM g b ds ρ W EE) (fun x => EE x ρ)) : sFor it g b ρ W EE := h
theorem w_sfrz {z : Option Addr} (e : ρ[i]? = some (.ow d z)) (e2 : ρ.set i (.sh d) = ρ') (h : c1 ρ' W EE) : sFrz i c1 ρ W EE := by unfold sFrz; rw [e]; subst e2; exact h
theorem w_sfrz0 (e : ρ[i]? = some (.sh d)) (h : c1 ρ W EE) : sFrz i c1 ρ W EE := by unfold sFrz; rw [e]; exact h
theorem w_sfrzN (e : ρ[i]? = some .no) (h : c1 ρ W EE) : sFrz i c1 ρ W EE := by unfold sFrz; rw [e]; exact h
theorem w_uof {Q : D → Env → Prop} (h : xa ρ (fun d => Q d ρ) (fun x => EE x ρ)) : uOf xa ρ Q EE := h
theorem w_setU {u : CU} (h : u ρ (fun d ρ' => nx (ρ'.set i (.sh d))) EE) : sSetU i u ρ ⟨nx, rt, bk, ct, ro⟩ EE := h
theorem w_app {u : CU} {xs : List D} {z : Option Addr} (e : ρ[i]? = some (.ow (.lst xs) z)) (h : u ρ (fun d ρ' => APPK ρ' i d nx) EE) : sApp i u ρ ⟨nx, rt, bk, ct, ro⟩ EE := ⟨by unfold isOwL; rw [e]; trivial, h⟩
theorem w_appk {xs : List D} {z : Option Addr} (e : ρ[i]? = some (.ow (.lst xs) z)) (e2 : ρ.set i (.ow (.lst (xs ++ [d])) z) = ρ') (h : xs.length < sizeLine ∧ nx ρ') : APPK ρ i d nx := by unfold APPK; rw [e]; subst e2; exact h
theorem w_starc {x : D} {xs : List D} (e : (ρ.set i (.sh x)).set j (.sh (.lst xs)) = ρ') (h : nx ρ') : STARK ρ i j nx (.tup (x :: xs)) := by subst e; exact h
theorem w_star (h : xa ρ (STARK ρ i j nx) (fun x => EE x ρ)) : sStar i j xa ρ ⟨nx, rt, bk, ct, ro⟩ EE := h

/-! expressions -/
variable {Q : D × Bool → Prop} {QB : Bool → Prop} {QD : D → Prop} {QL : List D → Prop} {E : Xn → Prop} {l l2 : CL}
theorem w_frz (h : c ρ (FST QD) E) : frz c ρ QD E := h
theorem w_c (h : Q (d, false)) : cC d ρ Q E := h
theorem w_var (e : ρ[i]? = some (.sh d)) (h : Q (d, false)) : cVar i ρ Q E := by unfold cVar; rw [e]; exact h
theorem w_bvar (e : ρ[i]? = some (.sh d)) (h : QD d) : bVar i ρ QD E := by unfold bVar; rw [e]; exact h
theorem w_bvarO {z : Option Addr} (e : ρ[i]? = some (.ow d z)) (h : QD d) : bVar i ρ QD E := by unfold bVar; rw [e]; exact h
theorem w_bin {op : Operator} (h : xa ρ (fun x => xb ρ (fun y => binM op x y Q E) E) E) : cBin op xa xb ρ Q E := h
theorem bnd_k {α β : Type} {m : M α} {f : α → M β} {P : β → Prop} {E : Xn → Prop} {K : α → Prop} (e : ∀ x, f x P E = K x) (h : m K E) : bnd m f P E := by
  have : (fun a => f a P E) = K := funext e
  show m (fun a => f a P E) E
  rw [this]; exact h
def NEGK (Q : D × Bool → Prop) (d : D) : Prop := match d with
  | .int i => Q (.int (-i), false)
  | _ => False
theorem w_negk {n : Int} (h : Q (.int (-n), false)) : NEGK Q (.int n) := h
theorem w_neg (h : xa ρ (NEGK Q) E) : cNeg xa ρ Q E := bnd_k (fun x => by cases x <;> rfl) h
theorem w_not (h : xa ρ (fun x => truM x (fun k => Q (.bl (!k), false)) E) E) : cNot xa ρ Q E := h
theorem w_and (h : c ρ (ANDK c2 ρ Q E) E) : cAnd c c2 ρ Q E := bnd_k (fun r => by
  have : (fun k : Bool => (if k = true then c2 ρ else ret r) Q E) = (fun k => BR k (c2 ρ Q E) (Q r)) := by funext k; cases k <;> rfl
  show truM r.1 (fun k : Bool => (if k = true then c2 ρ else ret r) Q E) E = truM r.1 (fun k => BR k (c2 ρ Q E) (Q r)) E
  rw [this]) h
theorem w_andk (h : truM d (fun k => BR k (c ρ Q E) (Q (d, bb))) E) : ANDK c ρ Q E (d, bb) := h
theorem w_or (h : c ρ (ORK c2 ρ Q E) E) : cOr c c2 ρ Q E := bnd_k (fun r => by
  have : (fun k : Bool => (if k = true then ret r else c2 ρ) Q E) = (fun k => BR k (Q r) (c2 ρ Q E)) := by funext k; cases k <;> rfl
  show truM r.1 (fun k : Bool => (if k = true then ret r else c2 ρ) Q E) E = truM r.1 (fun k => BR k (Q r) (c2 ρ Q E)) E
  rw [this]) h
theorem w_ork (h : truM d (fun k => BR k (Q (d, bb)) (c ρ Q E)) E) : ORK c ρ Q E (d, bb) := h
theorem br_fun {α : Type} {k : Bool} {x y : M α} {P : α → Prop} {E : Xn → Prop} (h : BR k (x P E) (y P E)) : (if k = true then x else y) P E := by cases k <;> exact h
theorem w_cif (h : t ρ (fun k => BR k (c ρ Q E) (c2 ρ Q E)) E) : cIf t c c2 ρ Q E := by
  have e : (fun k : Bool => (if k = true then c ρ else c2 ρ) Q E) = (fun k => BR k (c ρ Q E) (c2 ρ Q E)) := by funext k; cases k <;> rfl
  show t ρ (fun k : Bool => (if k = true then c ρ else c2 ρ) Q E) E
  rw [e]; exact h
theorem w_vt (h : t ρ (fun k => Q (.bl k, false)) E) : vT t ρ Q E := h
theorem w_tcm {op : CmpOp} (h : xa ρ (fun x => xb ρ (fun y => cmpM op x y QB E) E) E) : tCm op xa xb ρ QB E := h
theorem w_tch {op op' : CmpOp} (h : xa ρ (fun x => xb ρ (fun y => cmpM op x y (fun k => BR k (xc ρ (fun z => cmpM op' y z QB E) E) (QB false)) E) E) E) : tCh op op' xa xb xc ρ QB E := by
  have e : ∀ y, (fun k : Bool => (if k = true then bnd (xc ρ) fun z => cmpM op' y z else ret false) QB E) = (fun k => BR k (xc ρ (fun z => cmpM op' y z QB E) E) (QB false)) := by intro y; funext k; cases k <;> rfl
  show xa ρ (fun x => xb ρ (fun y => cmpM op x y (fun k : Bool => (if k = true then bnd (xc ρ) fun z => cmpM op' y z else ret false) QB E) E) E) E
  simp only [e]; exact h
theorem w_ttru (h : xa ρ (fun d => truM d QB E) E) : tTru xa ρ QB E := h
theorem w_tno (h : t ρ (fun k => QB (!k)) E) : tNo t ρ QB E := h
theorem w_tan (h : t ρ (fun k => BR k (t2 ρ QB E) (QB false)) E) : tAn t t2 ρ QB E := by
  have e : (fun k : Bool => (if k = true then t2 ρ else ret false) QB E) = (fun k => BR k (t2 ρ QB E) (QB false)) := by funext k; cases k <;> rfl
  show t ρ (fun k : Bool => (if k = true then t2 ρ else ret false) QB E) E
  rw [e]; exact h
theorem w_tor (h : t ρ (fun k => BR k (QB true) (t2 ρ QB E)) E) : tOr' t t2 ρ QB E := by
  have e : (fun k : Bool => (if k = true then ret true else t2 ρ) QB E) = (fun k => BR k (QB true) (t2 ρ QB E)) := by funext k; cases k <;> rfl
  show t ρ (fun k : Bool => (if k = true then ret true else t2 ρ) QB E) E
  rw [e]; exact h
theorem w_lnil (h : QL []) : cNil ρ QL E := h
theorem w_lcons (h : xa ρ (fun d => l ρ (fun ds => QL (d :: ds)) E) E) : cCons xa l ρ QL E := h
theorem w_tup (h : l ρ (fun ds => ds.length ≤ sizeLine ∧ Q (.tup ds, false)) E) : cTup l ρ Q E := h
theorem w_lst (h : l ρ (fun ds => ds.length ≤ sizeLine ∧ Q (.lst ds, true)) E) : cLst l ρ Q E := h
theorem w_ix (h : xa ρ (fun x => xb ρ (fun y => ixM x y (fun d => Q (d, false)) E) E) E) : cIx xa xb ρ Q E := h
theorem w_ixL {ds : List D} {n : Int} (e : atI ds n = some d) (h : QD d) : ixM (.lst ds) (.int n) QD E := by
  show match atI ds n with | some d => QD d | none => False
  rw [e]; exact h
theorem w_ixT {ds : List D} {n : Int} (e : atI ds n = some d) (h : QD d) : ixM (.tup ds) (.int n) QD E := by
  show match atI ds n with | some d => QD d | none => False
  rw [e]; exact h
theorem w_sl {lo hi : CO} (h : xa ρ (fun x => lo ρ (fun l => hi ρ (fun u => slM x l u Q E) E) E) E) : cSl xa lo hi ρ Q E := h
theorem w_ono {QO : Option Int → Prop} (h : QO none) : oNo ρ QO E := h
theorem w_oisk {QO : Option Int → Prop} {n : Int} (h : QO (some n)) : (match D.int n with | .int i => ret (some i) | _ => fail : M (Option Int)) QO E := h
theorem w_oisC {QO : Option Int → Prop} {n : Int} (h : QO (some n)) : oIs (frz (cC (.int n))) ρ QO E := h
theorem w_oisV {QO : Option Int → Prop} {n : Int} (e : ρ[i]? = some (.sh (.int n))) (h : QO (some n)) : oIs (bVar i) ρ QO E := by
  show bVar i ρ (fun x => (match x with | .int i => ret (some i) | _ => fail : M (Option Int)) QO E) E
  exact w_bvar e h
theorem w_slL {ds : List D} {lo hi : Option Int} (h : Q (.lst (cutA ds lo hi), true)) : slM (.lst ds) lo hi Q E := h
theorem w_slT {ds : List D} {lo hi : Option Int} (h : Q (.tup (cutA ds lo hi), false)) : slM (.tup ds) lo hi Q E := h
theorem w_slT1 {x : D} {xs : List D} (h : Q (.tup xs, false)) : slM (.tup (x :: xs)) (some 1) none Q E := by
  refine w_slT ?_
  rw [show cutA (x :: xs) (some 1) none = xs from cut_drop (x :: xs) 1]; exact h
theorem w_slL1 {x : D} {xs : List D} (h : Q (.lst xs, true)) : slM (.lst (x :: xs)) (some 1) none Q E := by
  refine w_slL ?_
  rw [show cutA (x :: xs) (some 1) none = xs from cut_drop (x :: xs) 1]; exact h
theorem w_call {n : Nat} {m : List D → M D} (h : l ρ (fun ds => callD n m ds Q E) E) : cCall n m l ρ Q E := h
theorem w_calld {n : Nat} {m : List D → M D} {ds : List D} (e : ds.length = n) (h : m ds (fun d => Q (d, false)) E) : callD n m ds Q E := ⟨e, h⟩
theorem w_callK {n : Nat} {is : List Nat} {m : List D → M D} (h : l ρ (fun ds => l2 ρ (fun es => callD n m (pick is (ds ++ es)) Q E) E) E) : cCallK n is m l l2 ρ Q E := h
theorem w_calldK {n : Nat} {m : List D → M D} {is : List Nat} {xs ds : List D} (e0 : pick is xs = ds) (e : ds.length = n) (h : m ds (fun d => Q (d, false)) E) : callD n m (pick is xs) Q E := by subst e0; exact ⟨e, h⟩
theorem w_callF {fl : Bool} {n : Nat} {m : List D → M D} (h : l ρ (fun ds => callF fl n m ds Q E) E) : cCallF fl n m l ρ Q E := h
theorem w_callf {fl : Bool} {n : Nat} {m : List D → M D} {ds : List D} (e : ds.length = n) (h : m ds (fun d => Q (d, fl)) E) : callF fl n m ds Q E := ⟨e, h⟩
theorem w_b {m : List D → M (D × Bool)} (h : l ρ (fun ds => m ds Q E) E) : cB m l ρ Q E := h
theorem w_lc {vs : List Nat} {it : CI} {ρ0 : Env} (e0 : wipeE ρ vs = ρ0) (h : it ρ (fun ds => ds.length ≤ sizeLine ∧ lcM g t xa ρ0 ds (fun r => Q (.lst r, true)) (fun _ => False)) E) : cLc vs it g t xa ρ Q E := by subst e0; exact h
theorem w_iseq (h : xa ρ (fun d => itemsM d QL E) E) : iSeq xa ρ QL E := h
theorem w_irng (h : l ρ (fun ds => rangeM ds QL E) E) : iRng l ρ QL E := h
theorem w_ien (h : l ρ (fun ds => enumM ds QL E) E) : iEn l ρ QL E := h
theorem w_izp (h : l ρ (fun ds => zipM ds QL E) E) : iZp l ρ QL E := h
theorem w_izpk {d e : D} {xs ys : List D} (h1 : seqD d = some xs) (h2 : seqD e = some ys) (h : QL (pairs xs ys)) : zipM [d, e] QL E := by
  show match seqD d, seqD e with | some xs, some ys => QL (pairs xs ys) | _, _ => False
  rw [h1, h2]; exact h
theorem w_gnm (e : ρ.set i (.sh d) = ρ') (h : nx ρ') : gNm i d ρ nx E := by subst e; exact h
theorem w_gtp {n : Nat} {gs : List D → Env → M Env} {ds : List D} (e : ds.length = n) (h : gs ds ρ nx E) : gTp n gs (.tup ds) ρ nx E := ⟨e, h⟩
theorem w_gscons {gs : List D → Env → M Env} {ds : List D} (h : g d ρ (fun ρ' => gs ds ρ' nx E) E) : gsCons g gs (d :: ds) ρ nx E := h
theorem w_gsnil (h : nx ρ) : gsNil [] ρ nx E := h
theorem w_yes (h : QB true) : tYesD ρ QB E := h
theorem w_isi {Ts : List TyN} (h : xa ρ (fun d => isiM Ts d Q E) E) : cIsi xa Ts ρ Q E := h
theorem w_isik {Ts : List TyN} {t : TyN} (e : tyN d = some t) (h : Q (.bl (Ts.any (subN t)), false)) : isiM Ts d Q E := by unfold isiM; rw [e]; exact h
theorem w_isiT {Ts : List TyN} (e : (match tyN d with | some t => some (Ts.any (subN t)) | none => none) = some true) (h : Q (.bl true, false)) : isiM Ts d Q E := by
  unfold isiM
  split at e
  · rename_i t ht; rw [ht]; have e := Option.some.inj e; show Q (.bl (Ts.any (subN t)), false); rw [e]; exact h
  · cases e
theorem w_isiF {Ts : List TyN} (e : (match tyN d with | some t => some (Ts.any (subN t)) | none => none) = some false) (h : Q (.bl false, false)) : isiM Ts d Q E := by
  unfold isiM
  split at e
  · rename_i t ht; rw [ht]; have e := Option.some.inj e; show Q (.bl (Ts.any (subN t)), false); rw [e]; exact h
  · cases e
theorem w_dct {ps : List (CB × CB)} (h : prM ps ρ (fun l => match kvD l with | some kvs => Q (.dct (unK (mergeG [] kvs)), true) | none => False) E) : cDct ps ρ Q E := h
theorem w_join {s : Str} (h : xa ρ (fun y => joinM (.str s) y Q E) E) : cJoin s xa ρ Q E := h
theorem w_best {gt : Bool} (h : l ρ (fun ds => xa ρ (fun d0 => bestDM gt d0 ds Q E) E) E) : cBest gt l xa ρ Q E := h
theorem w_lrg {tp : Bool} (h : l ρ (fun ds => rgsM ds (fun ij => Q (if tp = true then .tup (upto ij.1 1 (ij.2 - ij.1).toNat) else .lst (upto ij.1 1 (ij.2 - ij.1).toNat), !tp)) E) E) : cLRg tp l ρ Q E := h

/-! values -/
variable {n m : Int} {x y : Str} {xs ys : List D}
theorem w_addI (h : Q (.int (n + m), false)) : binM .Add (.int n) (.int m) Q E := h
theorem w_subI (h : Q (.int (n - m), false)) : binM .Sub (.int n) (.int m) Q E := h
theorem w_mulI (h : CMul n m ∧ Q (.int (n * m), false)) : binM .Mult (.int n) (.int m) Q E := h
theorem w_divI (h : CDiv n m ∧ Q (.int (n / m), false)) : binM .FloorDiv (.int n) (.int m) Q E := h
theorem w_modI (h : 0 < m ∧ Q (.int (n % m), false)) : binM .Mod (.int n) (.int m) Q E := h
theorem w_powI (h : CPow n m ∧ Q (.int (n ^ m.toNat), false)) : binM .Pow (.int n) (.int m) Q E := h
theorem w_addS (h : x.length + y.length ≤ sizeLine ∧ Q (.str (x ++ y), false)) : binM .Add (.str x) (.str y) Q E := h
theorem w_addL (h : xs.length + ys.length ≤ sizeLine ∧ Q (.lst (xs ++ ys), true)) : binM .Add (.lst xs) (.lst ys) Q E := h
theorem w_addT (h : xs.length + ys.length ≤ sizeLine ∧ Q (.tup (xs ++ ys), false)) : binM .Add (.tup xs) (.tup ys) Q E := h
theorem w_mulL (h : (-(2 ^ 63) ≤ n ∧ n < 2 ^ 63 ∧ xs.length * n.toNat ≤ sizeLine) ∧ Q (.lst (List.replicate n.toNat xs).flatten, true)) : binM .Mult (.lst xs) (.int n) Q E := h
theorem w_mulS (h : MulOk x n ∧ Q (.str (Txt.mul x n), false)) : binM .Mult (.str x) (.int n) Q E := h
theorem w_eq {d e : D} (h : eqM d e QB E) : cmpM .Eq d e QB E := h
theorem w_ne {d e : D} (h : eqM d e (fun b => QB (!b)) E) : cmpM .NotEq d e QB E := h
theorem w_lt (h : QB (decide (n < m))) : cmpM .Lt (.int n) (.int m) QB E := h
theorem w_le (h : QB (decide (n ≤ m))) : cmpM .LtE (.int n) (.int m) QB E := h
theorem w_gt (h : QB (decide (m < n))) : cmpM .Gt (.int n) (.int m) QB E := h
theorem w_ge (h : QB (decide (m ≤ n))) : cmpM .GtE (.int n) (.int m) QB E := h
theorem w_is (h : isNon d QB E) : cmpM .Is d .non QB E := by cases d <;> exact h
theorem w_isnt (h : isNon d (fun b => QB (!b)) E) : cmpM .IsNot d .non QB E := by cases d <;> exact h
theorem w_inSS (h : QB (inStr x y)) : cmpM .In (.str x) (.str y) QB E := h
theorem w_ninSS (h : QB (!inStr x y)) : cmpM .NotIn (.str x) (.str y) QB E := h
theorem w_eqI (h : QB (decide (n = m))) : eqM (.int n) (.int m) QB E := by
  have e : (n == m) = decide (n = m) := by by_cases h : n = m <;> simp [h]
  show QB (n == m)
  rw [e]; exact h
theorem w_eqS (h : QB (decide (x = y))) : eqM (.str x) (.str y) QB E := by
  have e : (x == y) = decide (x = y) := by by_cases h : x = y <;> simp [h]
  show QB (x == y)
  rw [e]; exact h
theorem w_eqSI (h : QB false) : eqM (.str x) (.int n) QB E := h
theorem w_eqIS (h : QB false) : eqM (.int n) (.str x) QB E := h
theorem w_eqNS (h : QB false) : eqM .non (.str x) QB E := h
theorem w_eqNI (h : QB false) : eqM .non (.int n) QB E := h
theorem w_eqSN (h : QB false) : eqM (.str x) .non QB E := h
theorem w_eqIN (h : QB false) : eqM (.int n) .non QB E := h
theorem w_eqB (h : QB (decide (k = k2))) : eqM (.bl k) (.bl k2) QB E := by
  cases k <;> cases k2 <;> exact h
theorem w_nonN (h : QB true) : isNon .non QB E := h
theorem w_nonI (h : QB false) : isNon (.int n) QB E := h
theorem w_nonS (h : QB false) : isNon (.str x) QB E := h
theorem w_nonB (h : QB false) : isNon (.bl k) QB E := h
theorem w_nonL (h : QB false) : isNon (.lst xs) QB E := h
theorem w_nonT (h : QB false) : isNon (.tup xs) QB E := h
theorem w_nonD {kvs : List (D × D)} (h : QB false) : isNon (.dct kvs) QB E := h
theorem w_nonO {c : Str} {fs : List (Str × D)} (h : QB false) : isNon (.obj c fs) QB E := h
theorem w_truB (h : QB k) : truM (.bl k) QB E := h
theorem w_truL (h : QB (!xs.isEmpty)) : truM (.lst xs) QB E := h
theorem w_truT (h : QB (!xs.isEmpty)) : truM (.tup xs) QB E := h
theorem w_truI (h : QB (n != 0)) : truM (.int n) QB E := h
theorem w_truN (h : QB false) : truM .non QB E := h
theorem w_lenL (h : Q (.int xs.length, false)) : lenM [.lst xs] Q E := h
theorem w_lenT (h : Q (.int xs.length, false)) : lenM [.tup xs] Q E := h
theorem w_lenD {kvs : List (D × D)} (h : Q (.int kvs.length, false)) : lenM [.dct kvs] Q E := h
theorem w_lenS (h : x.length ≤ sizeLine ∧ Q (.int x.length, false)) : lenM [.str x] Q E := h
theorem w_lstL (h : Q (.lst xs, true)) : listM [.lst xs] Q E := h
theorem w_lstT (h : Q (.lst xs, true)) : listM [.tup xs] Q E := h
theorem w_tupL (h : Q (.tup xs, false)) : tupleM [.lst xs] Q E := h
theorem w_tupT (h : Q (.tup xs, false)) : tupleM [.tup xs] Q E := h
theorem w_itL (h : QL xs) : itemsM (.lst xs) QL E := h
theorem w_itT (h : QL xs) : itemsM (.tup xs) QL E := h
theorem w_itS (h : QL (chars x)) : itemsM (.str x) QL E := h
theorem w_enL (h : QL (enumD xs)) : enumM [.lst xs] QL E := h
theorem w_enT (h : QL (enumD xs)) : enumM [.tup xs] QL E := h
theorem w_draw (h : (0 < n ∧ n < 2 ^ 30) ∧ ∀ k, 0 ≤ k → k < n → QD (.int k)) : drawM [.gen, .int n] QD E := h
theorem w_rng1 (h : (-(2 ^ 62) ≤ n ∧ n < 2 ^ 62) ∧ QL (upto 0 1 n.toNat)) : rangeM [.int n] QL E := h
theorem w_rng2 (h : (-(2 ^ 62) ≤ n ∧ n < 2 ^ 62 ∧ -(2 ^ 62) ≤ m ∧ m < 2 ^ 62) ∧ QL (upto n 1 (m - n).toNat)) : rangeM [.int n, .int m] QL E := h

theorem flL_strs : ∀ {ds : List D} {ss : List Str}, strsD ds = some ss → flL ds = some (ss.map PyData.str)
  | [], ss, h => by cases h; rfl
  | d :: ds, ss, h => by
    cases d with
    | str s =>
      have h2 : (strsD ds).map (s :: ·) = some ss := h
      obtain ⟨tt, h3, h4⟩ := Option.map_eq_some_iff.mp h2
      subst h4
      show (match fl (.str s), flL ds with | some p, some ps => some (p :: ps) | _, _ => none) = _
      rw [flL_strs h3]; rfl
    | _ => cases h
theorem w_inT {ds : List D} {ss : List Str} (e : strsD ds = some ss) (h : QB (ss.any fun z => z == x)) : cmpM .In (.str x) (.tup ds) QB E := by
  show match fl (.str x), flL ds with | some p, some ps => QB (ps.any fun z => PyData.eqv z p) | _, _ => _
  rw [flL_strs e]
  show QB ((ss.map PyData.str).any fun z => PyData.eqv z (.str x))
  rw [List.any_map]; exact h
theorem w_ninT {ds : List D} {ss : List Str} (e : strsD ds = some ss) (h : QB (!(ss.any fun z => z == x))) : cmpM .NotIn (.str x) (.tup ds) QB E := by
  show match fl (.str x), flL ds with | some p, some ps => QB (!(ps.any fun z => PyData.eqv z p)) | _, _ => _
  rw [flL_strs e]
  show QB (!((ss.map PyData.str).any fun z => PyData.eqv z (.str x)))
  rw [List.any_map]; exact h
theorem lc_of {α : Type} {e : CB} {E : Xn → Prop} (F G : α → D) : ∀ {ts : List α} {fs gs : List D} {Q : List D → Prop}, ts.map F = fs → ts.map G = gs → (∀ t ∈ ts, ∀ Q : D → Prop, Q (G t) → e (ρ.set i (.sh (F t))) Q E) → Q gs → lcM (gNm i) tYesD e ρ fs Q E
  | [], fs, gs, Q, hf, hg, _, q => by subst hf; subst hg; exact q
  | t :: ts, fs, gs, Q, hf, hg, h, q => by
    subst hf; subst hg
    show e (ρ.set i (.sh (F t))) (fun x => lcM (gNm i) tYesD e ρ (ts.map F) (fun r => Q (x :: r)) E) E
    exact h t List.mem_cons_self _ (lc_of F G rfl rfl (fun s hs => h s (List.mem_cons_of_mem _ hs)) q)
/-! instances -/
variable {gl : List (Str × GV)} {c0 f : Str} {fs : List (Str × D)}
theorem w_at2 (h : xa ρ (fun d => attM gl f d Q E) E) : cAt2 gl f xa ρ Q E := h
theorem w_attP {mm : List D → M D} (e : gl.lookup (clsKey c0 f) = some (.pr c0 f mm)) (h : mm [.obj c0 fs] (fun d => Q (d, false)) (fun _ => False)) : attM gl f (.obj c0 fs) Q E := by
  unfold attM
  show match gl.lookup (clsKey c0 f) with | some (.pr c' f' mm) => _ | some (.cc c' f' d) => _ | _ => _
  rw [e]; exact ⟨⟨rfl, rfl⟩, rfl, h⟩
theorem w_attC (e : gl.lookup (clsKey c0 f) = some (.cc c0 f d)) (e2 : fs.lookup f = none) (h : Q (d, false)) : attM gl f (.obj c0 fs) Q E := by
  unfold attM
  show match gl.lookup (clsKey c0 f) with | some (.pr c' f' mm) => _ | some (.cc c' f' d) => _ | _ => _
  rw [e]; exact ⟨⟨rfl, rfl, e2⟩, h⟩
def isFl (gl : List (Str × GV)) (c f : Str) : Bool := (match gl.lookup (clsKey c f) with | some (.pr _ _ _) => false | some (.cc _ _ _) => false | _ => true) && (clsF gl c).contains f
theorem w_attF (e : isFl gl c0 f = true) (e2 : fs.lookup f = some d) (h : Q (d, false)) : attM gl f (.obj c0 fs) Q E := by
  unfold isFl at e
  rw [Bool.and_eq_true] at e
  unfold attM
  show match gl.lookup (clsKey c0 f) with | some (.pr c' f' mm) => _ | some (.cc c' f' d) => _ | _ => _
  split
  · rename_i q; rw [q] at e; cases e.1
  · rename_i q; rw [q] at e; cases e.1
  · refine ⟨e.2, ?_⟩
    rw [e2]; exact h
theorem w_atOF {z : Option Addr} (e0 : ρ[i]? = some (.ow (.obj c0 fs) z)) (e : isFl gl c0 f = true) (e2 : fs.lookup f = some d) (h : Q (d, false)) : cAtO gl i f ρ Q E := by
  unfold isFl at e
  rw [Bool.and_eq_true] at e
  unfold cAtO
  show match (ρ[i]? : Option Cell) with | some (.ow (.obj c fs) z) => _ | _ => _
  rw [e0]
  show match gl.lookup (clsKey c0 f) with | some (.cc c' f' d) => _ | _ => _
  split
  · rename_i q; rw [q] at e; cases e.1
  · refine ⟨e.2, ?_⟩
    rw [e2]; exact h
theorem w_attM {z : Option Addr} (e0 : ρ[i]? = some (.ow (.obj c0 fs) z)) (e : (clsF gl c0).contains f = true) (hl : fs.length < 1000) (h : xa ρ (ATTK ρ i c0 f fs z nx) (fun x => EE x ρ)) : sAttM gl i f xa ρ ⟨nx, rt, bk, ct, ro⟩ EE := by
  refine ⟨by unfold isOwO; rw [e0]; trivial, ?_⟩
  unfold sFst
  show xa ρ (fun d => match (ρ[i]? : Option Cell) with | some (.ow (.obj cn fs) z) => _ | _ => _) _
  rw [e0]
  have : (fun d => (clsF gl c0).contains f = true ∧ fs.length < 1000 ∧ nx (ρ.set i (.ow (.obj c0 (putFD f d fs)) z))) = ATTK ρ i c0 f fs z nx := by
    funext d; exact propext ⟨fun h => h.2.2, fun h => ⟨e, hl, h⟩⟩
  show xa ρ (fun d => (clsF gl c0).contains f = true ∧ fs.length < 1000 ∧ nx (ρ.set i (.ow (.obj c0 (putFD f d fs)) z))) _
  rw [this]; exact h
theorem putFD_new : ∀ {fs : List (Str × D)} {f : Str} {d : D}, (fs.map (·.1)).contains f = false → putFD f d fs = fs ++ [(f, d)]
  | [], _, _, _ => rfl
  | (g, x) :: r, f, d, h => by
    rw [List.map_cons, List.contains_cons, Bool.or_eq_false_iff] at h
    have hn : ¬ g = f := fun e => by
      have := h.1
      simp [e] at this
    unfold putFD
    rw [if_neg hn, putFD_new h.2]; rfl
theorem w_attk {z : Option Addr} (e : (fs.map (·.1)).contains f = false) (e1 : ρ.set i (.ow (.obj c0 (fs ++ [(f, d)])) z) = ρ') (h : nx ρ') : ATTK ρ i c0 f fs z nx d := by
  unfold ATTK
  rw [putFD_new e, e1]; exact h
theorem w_sup {dn : Str} {n : Nat} {mo : MO} {z : Option Addr} (e0 : ρ[(0 : Nat)]? = some (.ow (.obj c0 fs) z)) (e : gl.lookup (spKey c0 dn) = some (.spi c0 dn n mo))
    (h : l ρ (fun ds => ds.length = n ∧ mo (.obj c0 fs) ds (fun _ d1 => nx (ρ.set 0 (.ow d1 z))) (fun x d1 => EE x (ρ.set 0 (.ow d1 z)))) (fun x => EE x ρ)) : sSup gl dn l ρ ⟨nx, rt, bk, ct, ro⟩ EE := by
  unfold sSup
  show match (ρ[(0 : Nat)]? : Option Cell) with | some (.ow (.obj c fs) z) => _ | _ => _
  rw [e0]
  show match gl.lookup (spKey c0 dn) with | some (.spi c' dn' n mo) => _ | _ => _
  rw [e]
  exact ⟨⟨rfl, rfl⟩, h⟩
theorem w_make {n : Nat} {mo : MO} (h : l ρ (fun ds => mkC c0 n mo ds Q E) E) : cMake c0 n mo l ρ Q E := h
theorem w_makeK {n : Nat} {is : List Nat} {mo : MO} (h : l ρ (fun ds => l2 ρ (fun es => mkC c0 n mo (pick is (ds ++ es)) Q E) E) E) : cMakeK c0 n is mo l l2 ρ Q E := h
theorem w_mk {n : Nat} {mo : MO} {ds : List D} (e : ds.length = n) (h : mo (.obj c0 []) ds (fun v d1 => v = .non ∧ Q (d1, true)) (fun x _ => E x)) : mkC c0 n mo ds Q E := ⟨e, h⟩
theorem w_mkK {n : Nat} {mo : MO} {is : List Nat} {zs ds : List D} (e0 : pick is zs = ds) (e : ds.length = n) (h : mo (.obj c0 []) ds (fun v d1 => v = .non ∧ Q (d1, true)) (fun x _ => E x)) : mkC c0 n mo (pick is zs) Q E := by subst e0; exact ⟨e, h⟩
theorem w_iso {ts : List TyE} (h : xa ρ (fun d => isoM gl ts d Q E) E) : cIso gl xa ts ρ Q E := h
theorem w_isok {ts : List TyE} (e : isoL gl d ts = some k) (h : Q (.bl k, false)) : isoM gl ts d Q E := by unfold isoM; rw [e]; exact h
theorem w_methk {m : Str} {n : Nat} {mm : List D → M D} {kw : List (Nat × List Str × List Nat)} (e : gl.lookup (clsKey c0 m) = some (.me c0 m n mm kw)) (e2 : fs.lookup m = none) (h : l ρ (fun ds => callD n mm (.obj c0 fs :: ds) Q E) E) : METHK gl m l ρ Q E (.obj c0 fs) := by
  unfold METHK
  show match gl.lookup (clsKey c0 m) with | some (.me c' m' n mm _) => _ | _ => _
  rw [e]; exact ⟨⟨rfl, rfl, e2⟩, h⟩
theorem w_bino {op : Operator} (h : xa ρ (fun x => xb ρ (fun y => binO gl op x y Q E) E) E) : cBinO gl op xa xb ρ Q E := h
theorem w_cmo {op : CmpOp} (h : xa ρ (fun x => xb ρ (fun y => cmpO gl op x y QB E) E) E) : tCmO gl op xa xb ρ QB E := h
theorem w_binoI {op : Operator} {e : D} (h : binM op (.int n) e Q E) : binO gl op (.int n) e Q E := h
theorem w_binoS {op : Operator} {e : D} (h : binM op (.str x) e Q E) : binO gl op (.str x) e Q E := h
theorem w_binoL {op : Operator} {e : D} (h : binM op (.lst xs) e Q E) : binO gl op (.lst xs) e Q E := h
theorem w_binoT {op : Operator} {e : D} (h : binM op (.tup xs) e Q E) : binO gl op (.tup xs) e Q E := h
def isO : D → Bool
  | .obj _ _ => true
  | _ => false
theorem w_cmoP {op : CmpOp} {d e : D} (h1 : isO d = false) (h2 : isO e = false) (h : cmpM op d e QB E) : cmpO gl op d e QB E := by
  unfold cmpO
  cases d <;> cases e <;> cases op <;> first | exact h | exact Bool.noConfusion h1 | exact Bool.noConfusion h2
theorem w_cmoEq {d e : D} (h1 : isO d = false) (h : cmpM .Eq d e QB E) : cmpO gl .Eq d e QB E := by
  cases d <;> first | exact h | exact Bool.noConfusion h1
theorem w_cmoNe {d e : D} (h1 : isO d = false) (h : cmpM .NotEq d e QB E) : cmpO gl .NotEq d e QB E := by
  cases d <;> first | exact h | exact Bool.noConfusion h1
theorem w_cmoEqO {n : Nat} {mm : List D → M D} {kw : List (Nat × List Str × List Nat)} {e : D} (e1 : gl.lookup (clsKey c0 "__eq__") = some (.me c0 "__eq__" n mm kw)) (e2 : rOk gl c0 e = true) (e3 : 2 = n) (h : mm [.obj c0 fs, e] (fun r => ∃ b, r = .bl b ∧ QB b) E) : cmpO gl .Eq (.obj c0 fs) e QB E := by
  show match gl.lookup (clsKey c0 "__eq__") with | some (.me c' m' n mm _) => _ | _ => _
  rw [e1]
  exact ⟨⟨rfl, rfl⟩, e2, e3, h⟩
theorem w_cmoNeO {n : Nat} {mm : List D → M D} {kw : List (Nat × List Str × List Nat)} {e : D} (e1 : gl.lookup (clsKey c0 "__eq__") = some (.me c0 "__eq__" n mm kw)) (e2 : (rOk gl c0 e && hasNe gl c0) = true) (e3 : 2 = n) (h : mm [.obj c0 fs, e] (fun r => ∃ b, r = .bl b ∧ QB (!b)) (fun _ => False)) : cmpO gl .NotEq (.obj c0 fs) e QB E := by
  show match gl.lookup (clsKey c0 "__eq__") with | some (.me c' m' n mm _) => _ | _ => _
  rw [e1]
  exact ⟨⟨rfl, rfl⟩, e2, e3, h⟩
theorem w_binoO {op : Operator} {n : Nat} {mm : List D → M D} {kw : List (Nat × List Str × List Nat)} {e : D} (e1 : gl.lookup (clsKey c0 (PySem.dunder op.info.2)) = some (.me c0 (PySem.dunder op.info.2) n mm kw)) (e2 : rOk gl c0 e = true) (e3 : opsOk gl c0 op e = true) (e4 : 2 = n) (h : mm [.obj c0 fs, e] (fun d => Q (d, false)) E) : binO gl op (.obj c0 fs) e Q E := by
  show match gl.lookup (clsKey c0 (PySem.dunder op.info.2)) with | some (.me c' m' n mm _) => _ | _ => _
  rw [e1]
  exact ⟨⟨rfl, rfl⟩, e2, e3, e4, h⟩
theorem w_unoO {m : Str} {n : Nat} {mm : List D → M D} {kw : List (Nat × List Str × List Nat)} (e1 : gl.lookup (clsKey c0 m) = some (.me c0 m n mm kw)) (e4 : 1 = n) (h : mm [.obj c0 fs] (fun d => Q (d, false)) E) : unO gl m (.obj c0 fs) Q E := by
  show match gl.lookup (clsKey c0 m) with | some (.me c' m' n mm _) => _ | _ => _
  rw [e1]
  exact ⟨⟨rfl, rfl⟩, e4, h⟩
theorem w_uno {m : Str} (h : xa ρ (fun x => unO gl m x Q E) E) : cUnO gl m xa ρ Q E := h
theorem w_meth {m : Str} (h : xa ρ (fun o => METHK gl m l ρ Q E o) E) : cMeth gl m xa l ρ Q E := h
end
end DL
/-! errors that are raised and caught -/
namespace L2
open PySem PySem.Spec PyProof.Rows
/-- an exception that is known: its class, its dict -/
def xhV (a : Addr) (cls : Value) (d : Option Addr) : HO := .ext fun h => ∃ (oe : Obj) (vs : Array Value), h.get? a = some oe ∧ oe.cls = cls ∧ oe.dict = d ∧ oe.data = .fields vs
theorem xhV_ok {P : Program} {w : World} {H : Hp} {h : Heap} {a : Addr} {cls : Value} {d : Option Addr} {oe : Obj} {vs : Array Value} (e : h.get? a = some oe) (z : Zc cls d oe) (hd : oe.data = .fields vs) : ObjOk P w H h a (xhV a cls d) :=
  ⟨⟨oe, vs, e, z.1, z.2, hd⟩, ⟨oe, e⟩, fun h1 h2 ⟨o, vs, e1, e2⟩ k => ⟨o, vs, k _ e1, e2⟩⟩
section
variable {X : Cx} {pins : List (Addr × Obj)} {σ : St} {H : Hp} {s : Shared}
/-- an object that is new since the entry, and not known, is known from now on -/
theorem Inv.learn {a : Addr} {o : HO} (I : Inv X pins σ H s) (hn : H a = none) (h0 : X.s_0.heap.get? a = none) (hl : a ≠ X.env.locals) (hp : ∀ p ∈ X.pn ++ pins, p.1 ≠ a) (hc : ∀ x c, X.env.cells.lookup x = some c → c ≠ a) (new : ObjOk X.prog X.w (upd H a o) s.heap a o) : Inv X pins σ (upd H a o) s where
  ok := I.ok
  os := I.os
  bare := I.bare
  base := by
    have u := I.base
    exact ⟨u.keep, u.slot, fun b ob q n hx => by
      rw [upd_ne (fun z => by rw [z, h0] at q; cases q)]; exact u.free b ob q n hx, u.there, fun b xs q => by rw [upd_ne (ne_of_none (u.tups b xs q) hn)]; exact u.tups b xs q,
      fun b ob xs q => by rw [upd_ne (ne_of_none (u.frzs b ob xs q) hn)]; exact u.frzs b ob xs q, fun b ps q => by
        obtain ⟨m, e⟩ := u.tbls b ps q
        exact ⟨m, by rw [upd_ne (ne_of_none e hn)]; exact e⟩⟩
  loc := I.loc
  cell := I.cell
  free := by rw [upd_ne (fun z => hl z.symm)]; exact I.free
  freeC := fun x c e => by rw [upd_ne (hc x c e)]; exact I.freeC x c e
  pin := fun p hq => by
    obtain ⟨e, n, r⟩ := I.pin p hq
    exact ⟨e, by rw [upd_ne (hp p hq)]; exact n, r⟩
  hok := I.hok.laidN (fun _ _ q => q) hn new
  len := I.len
end
/-- what the clause 'except x as n' wishes, where the error is known behind the suite -/
def wKeep (K : PySem.W.Frag) (c : Value) (i : Nat) (ts : Addr → TS) (Wout : WX) (D : Ends) : WX := fun cls d σ H =>
  ∃ b, PySem.W.exmOne K cls c = some b ∧ (b = true → ∀ a, H a = none → ts a { nx := fun σ' H' => H' a = none ∧ D.nx (σ'.set i none) (upd H' a (xhV a cls d)), rt := fun _ _ => False, bk := fun _ _ => False, ct := fun _ _ => False } (σ.set i (some (.ref a))) H) ∧
    (b = false → Wout cls d σ H)
section
variable {X : Cx} {x n : Str} {c : Value} {i : Nat} {body suite : List Stmt} {b₀ : Stmt} {np pos pos' : Pos} {tb : WX → TS} {ts : Addr → TS} {Wout : WX}
theorem ps_try_keep (hs : X.stack = X.env :: X.outer) (hf : X.env.frame = some X.env.locals) (hex : X.ex = []) (hN : X.N.Nodup) (hi : X.N[i]? = some n) (hln : X.env.kindOf n = some .local) (hc : Names X x c) (tk : Takes X Wout)
    (hb : ∀ (W : WX) (pn : List (Addr × Obj)) (xe : Value → Shared → Prop), Takes (X.tr pn xe) W → PassesOwn (model X.prog X.w) X.A X.env xe → PSs (X.tr pn xe) body (tb W))
    (hsu : ∀ (a : Addr) (oe : Obj) (pn : List (Addr × Obj)), PSs (X.suite a ((a, oe) :: pn)) (b₀ :: suite) (ts a)) :
    PS X (.Try body [.ExceptHandler (some (.Name x np)) (some n) (b₀ :: suite) pos'] [] [] pos) (fun D σ H => tb (wKeep X.K c i ts Wout D) D σ H) := by
  refine ⟨fun pins s σ H D I h => ?_⟩
  have ok := I.ok
  have hfr : X.A.frames = some (X.env :: X.outer) := by rw [ok.frames, hs]
  have hloc : Loc X.env.scope n := .inl hln
  refine wpAny_Try_except ?_
  refine wpAny_mono ((hb (wKeep X.K c i ts Wout D) (X.pn ++ pins) (fun e s₁ => wpAny (model X.prog X.w) X.A (noteFrame e X.env) (fun _ s₂ => wpAny (model X.prog X.w) X.A (setFlight e none) (fun _ s₃ =>
    wpAny (model X.prog X.w) X.A (handleBy e X.env [.ExceptHandler (some (.Name x np)) (some n) (b₀ :: suite) pos']) (SP X pins D) X.xe s₃) X.xe s₂) X.xe s₁) (fun u s' xx => ?_) PassesOwn.looking).run [] s σ H D (I.toTry _) h) (fun f s1 hsp => ?_) (fun e s1 he => he)
  · obtain ⟨a, B, sI, pins', σ', H', cls, d, rfl, J', nb, up, sky, na, os, ag, b, hb1, hyes, hno⟩ := xx
    have J : Inv X pins σ' H' sI := J'.ofTry ok
    have sky' : Sky B (X.env :: X.outer) a (Zc cls d) X.env.locals s'.heap := by rw [← hs]; exact sky
    show wpAny (model X.prog X.w) X.A (noteFrame (.ref a) X.env) _ _ _
    refine Sky.land Zc.steady hfr hf sky' fun h3 fl3 up3 => ?_
    have J3 : Inv X pins σ' H' { s' with heap := h3 } := J.landed nb fl3.1 (up.trans up3) os ag
    obtain ⟨oe3, vs3, he3, hz3, hd3⟩ := fl3.there
    have notFr : ∀ {h : Heap} {o : Obj} {vs : Array Value}, h.FunFrames B (X.env :: X.outer) → h.get? a = some o → o.data = .fields vs → a ∉ frs (X.env :: X.outer) := fun {h o vs} ff e dd hm => by
      obtain ⟨_, o', e', hnf⟩ := ff.mem hm
      rw [e] at e'; cases e'
      exact hnf _ dd
    have nfr := notFr fl3.2.2.1 he3 hd3
    have nL : a ≠ X.env.locals := fun z => nfr (List.mem_filterMap.mpr ⟨X.env, List.mem_cons_self, by rw [hf, z]⟩)
    have nF : a ∉ X.fs := fun hm => by
      obtain ⟨e, he, q⟩ := List.mem_filterMap.mp hm
      exact nfr (List.mem_filterMap.mpr ⟨e, List.mem_cons_of_mem _ he, q⟩)
    have nsI : sI.heap.get? a = none := by
      cases q : sI.heap.get? a with
      | none => rfl
      | some o =>
        have := nb a o q (by rw [hs]; exact nfr)
        rw [fl3.2.1] at this; cases this
    have h0 : X.s_0.heap.get? a = none := by
      cases q : X.s_0.heap.get? a with
      | none => rfl
      | some o =>
        obtain ⟨o', e⟩ := J.base.there a o q (by rw [hex]; simp)
        rw [nsI] at e; cases e
    have S3 := J3.suite he3 hd3 na nL nF
    refine wpAny_handleBy_cons (codeAny_handlers_test ?_) (by intro q; cases q)
    have LT : PySem.W.Looks (model X.prog X.w) h3 (typeOf (.ref a)) cls := fun A Q E s k q => wpAny_typeOf_ref (k _ _ he3) (by rw [hz3.1]; exact q)
    have LM := PySem.W.exm_one (M := model X.prog X.w) (J3.kIn) LT hb1
    have test : ∀ {Q : Value → Shared → Prop} {E : Value → Shared → Prop}, Q c { s' with heap := h3 } → wpAny (model X.prog X.w) (X.A.mark (some (.ref a))) (eval (.Name x np) X.env) Q E { s' with heap := h3 } := fun {Q E} q => by
      obtain ⟨hg, hdbg, hm | ⟨hm, hv, hnn⟩⟩ := hc
      · exact ld_glob (X := X.suite a ((a, oe3) :: (X.pn ++ pins))) S3 hg hm q hdbg
      · exact ld_blt (X := X.suite a ((a, oe3) :: (X.pn ++ pins))) S3 hg hm hv q hnn hdbg
    refine test (LM.here ?_)
    cases b with
    | true =>
      refine codeAny_handlers_suite_as ?_
      refine HandSPX.lands_againZ fl3 fun h4 fl4 up4 => ?_
      have J4 : Inv X pins σ' H' { s' with heap := h4 } := J.landed nb fl4.1 ((up.trans up3).trans up4) os ag
      obtain ⟨oe4, vs4, he4, hz4, hd4⟩ := fl4.there
      have S4 := J4.suite he4 hd4 na nL nF
      refine store_ok (X := X.suite a ((a, oe4) :: (X.pn ++ pins))) (v := .ref a) S4 hN hi hloc rfl (fun s5 S5 => ?_) (.inr hln)
      refine wpAny_mono ((hsu a oe4 (X.pn ++ pins)).run [] s5 _ H' _ S5 (hyes rfl a na)) (fun f s6 hsp => ?_) (fun _ _ z => False.elim z)
      cases f with
      | next =>
        obtain ⟨σ6, H6, S6, na6, q6⟩ := hsp
        have S7 : Inv X ((a, oe4) :: pins) σ6 H6 s6 := ⟨ok, S6.os, S6.bare, S6.base, S6.loc, S6.cell, S6.free, S6.freeC, fun p hp => S6.pin p (by
          rcases List.mem_append.mp hp with q | q
          · exact List.mem_append_left _ (List.mem_cons_of_mem _ (List.mem_append_left _ q))
          · rcases List.mem_cons.mp q with rfl | q
            · exact List.mem_append_left _ List.mem_cons_self
            · exact List.mem_append_left _ (List.mem_cons_of_mem _ (List.mem_append_right _ q))), S6.hok, S6.len⟩
        show wpAny (model X.prog X.w) X.A (do bindName X.env n .none; unbindBehindTheSuite X.env n pos') _ X.xe s6
        refine gone_ok S7 hN hi hln fun s7 J7 => ?_
        obtain ⟨e7, _⟩ := J7.pin (a, oe4) (List.mem_append_right _ List.mem_cons_self)
        have J8 : Inv X pins (σ6.set i none) H6 s7 := ⟨ok, J7.os, J7.bare, J7.base, J7.loc, J7.cell, J7.free, J7.freeC, fun p hp => J7.pin p (by
          rcases List.mem_append.mp hp with q | q
          · exact List.mem_append_left _ q
          · exact List.mem_append_right _ (List.mem_cons_of_mem _ q)), J7.hok, J7.len⟩
        refine ⟨_, _, J8.learn na6 h0 nL (fun p hp z => ?_) (fun y c' hy z => ?_) (xhV_ok e7 hz4 hd4), q6⟩
        · obtain ⟨e, _⟩ := J.pin p hp
          rw [z, nsI] at e; cases e
        · obtain ⟨v, o, e, _⟩ := J.cell y c' hy
          rw [z, nsI] at e; cases e
      | brk => obtain ⟨σ6, H6, S6, q6⟩ := hsp; exact q6.elim
      | cont => obtain ⟨σ6, H6, S6, q6⟩ := hsp; exact q6.elim
      | ret u => obtain ⟨v6, σ6, H6, S6, r6, q6⟩ := hsp; exact q6.elim
    | false =>
      show wpAny _ X.A (handleBy (.ref a) X.env []) _ _ _
      refine wpAny_handleBy_nil ?_
      obtain ⟨k1, k2, k3, oe, vs, T, oT, ts', he, hz, hd, h1, hr⟩ := id fl3
      unfold PySem.passOn
      refine wpAny_bind (wpAny_field he hd h1 ?_)
      rw [if_neg (show ¬ ((Value.ref T == Value.none) = true) from by simp)]
      have fin : wpAny (model X.prog X.w) X.A (setFlight (.ref a) X.env.frame) (fun _ s4 => wpAny (model X.prog X.w) X.A (throw (.ref a) : Sem Flow) (SP X pins D) X.xe s4) X.xe { s' with heap := h3 } := by
        rw [hf]
        refine HandSPX.setFlight_upZ fl3 fun h4 hh4 up4 => wpAny_throw (tk _ _ ?_)
        exact ⟨a, B, sI, pins, σ', H', cls, d, rfl, J, nb, (up.trans up3).trans up4, .inr (.inr (by rw [hs]; exact hh4)), na, os, ag, hno rfl⟩
      first
        | exact wpAny_bind (wpAny_pure (wpAny_bind fin))
        | exact wpAny_bind fin
  · cases f with
    | next =>
      obtain ⟨σ', H', J', q⟩ := hsp
      exact wpAny_execs_nil ⟨σ', H', J'.ofTry ok, q⟩
    | brk =>
      obtain ⟨σ', H', J', q⟩ := hsp
      exact ⟨σ', H', J'.ofTry ok, q⟩
    | cont =>
      obtain ⟨σ', H', J', q⟩ := hsp
      exact ⟨σ', H', J'.ofTry ok, q⟩
    | ret u =>
      obtain ⟨v, σ', H', J', r, q⟩ := hsp
      exact ⟨v, σ', H', J'.ofTry ok, r, q⟩
end
end L2
namespace DL
open PySem L2 PySem.Spec PyProof.Rows
theorem xh_eq {a C : Addr} {d : Option Addr} : xh a C d = xhV a (.ref C) d := rfl

/-! ### raise C(e, ..) -/
def sRaise (c : Str) (fo : Option Str) (l : CL) : CS := fun ρ _ E => l ρ (fun ds => match fo, ds with
  | none, [] => E ⟨c, []⟩ ρ
  | some f, [d] => E ⟨c, [(f, d)]⟩ ρ
  | _, _ => False) (fun x => E x ρ)
section
variable {X : Cx} {g : Sg} {E : EX} {x : Str} {p pos pos2 : Pos} {e : Expr} {es : List Expr} {fo : Option Str} {cl : CL} {n : Nat}
theorem raise_imp {C : Addr} {t : TA} (hc : ClsAt X.K x C) {Dn : Ends} {σ : L2.St} {H : Hp} (h : rdS X.K E (sRaise x fo cl) Dn σ H) (ht : t = rdL X.K E n cl) : tMkX C fo t σ H fun cls d H' => wX X.K E cls d σ H' := by
  subst ht
  obtain ⟨F, ρ, W, re, h, l⟩ := h
  refine ⟨F, ρ, _, re, h, fun vs H' F' ds gr rl hn q => ?_⟩
  have re' := re.grow gr
  cases fo with
  | none =>
    cases ds with
    | cons d ds => exact q.elim
    | nil =>
      cases rl
      exact ⟨F', ρ, ⟨x, []⟩, re', ⟨C, hc, rfl, .inr ⟨rfl, rfl⟩⟩, q⟩
  | some f =>
    cases ds with
    | nil => exact q.elim
    | cons d ds =>
      cases ds with
      | cons d2 ds => exact q.elim
      | nil =>
        obtain ⟨v, rfl, r⟩ : ∃ v, vs = [v] ∧ Rep X.K F' v d := by
          cases rl with | cons r t => cases t; exact ⟨_, rfl, r⟩
        intro dx hd
        have g2 := Grow.new re'.fh hd (.xd [(f, v)])
        exact ⟨_, ρ, ⟨x, [(f, d)]⟩, re'.grow g2, ⟨C, hc, rfl, .inl ⟨dx, [(f, v)], rfl, upd_same, .cons (r.mono g2.f) .nil⟩⟩, q⟩
theorem rs_raise (ok : SgOk X g E) (hg : Gl X x) (hdb : (x == ("__debug__" : Str)) = false) (el : g.gl.lookup x = some (.xc fo)) (hl : PA X (e :: es) (rdL X.K E n cl)) (hs : starEach (e :: es) X.env = (false, eval e X.env) :: starEach es X.env) (hpl : (backTo pos (starEach es X.env)).any (·.1) = false) :
    PS X (.Raise (some (.Call (.Name x p) (e :: es) [] pos)) none pos2) (rdS X.K E (sRaise x fo cl)) := by
  obtain ⟨C, fI, fd, k, hc, hm, M, _, _, hr⟩ := ok.gl _ _ el
  exact (L2.ps_raise ok.calm ok.tk (pmk_x (t := rdL X.K E n cl) M hr ok.gd hg hm hl hdb hs hpl)).imp fun Dn σ H h => raise_imp hc h rfl
theorem rs_raise0 (ok : SgOk X g E) (hg : Gl X x) (hdb : (x == ("__debug__" : Str)) = false) (el : g.gl.lookup x = some (.xc fo)) : PS X (.Raise (some (.Call (.Name x p) [] [] pos)) none pos2) (rdS X.K E (sRaise x fo cNil)) := by
  obtain ⟨C, fI, fd, k, hc, hm, M, _, _, hr⟩ := ok.gl _ _ el
  refine (L2.ps_raise ok.calm ok.tk (pmk_x0 M hr ok.gd hg hm hdb)).imp fun Dn σ H h => ?_
  obtain ⟨F, ρ, W, re, h, l⟩ := h
  clear el
  cases fo with
  | none =>
    have h : E.e ⟨x, []⟩ ρ := h
    exact ⟨F, ρ, ⟨x, []⟩, re, ⟨C, hc, rfl, .inr ⟨rfl, rfl⟩⟩, h⟩
  | some f =>
    have h : False := h
    exact h.elim
end
def sRaiseR : SR := fun r g st => match st with
  | .Raise (some (.Call (.Name x _) es [] _)) none _ => if globB g x = true then match g.gl.lookup x, lOf r g es with
    | some (.xc fo), some l => some (sRaise x fo l)
    | _, _ => none else none
  | _ => none
theorem sRaiseR_ok : SrOk sRaiseR := by
  intro r R X g E st c ok hp h
  unfold sRaiseR at h
  split at h
  · rename_i x p es pos pos2
    split at h
    · rename_i hg
      obtain ⟨q1, q2⟩ := globB_is ok hg
      split at h
      · rename_i fo l el hl
        cases h
        cases es with
        | nil =>
          cases hl
          exact rs_raise0 ok q1 q2 el
        | cons e es =>
          obtain ⟨h1, h2⟩ := lOf_ok R ok hl
          rw [List.all_cons, Bool.and_eq_true] at h2
          exact rs_raise ok q1 q2 el h1 (plain_star h2.1) (plains_pl h2.2)
      · cases h
    · cases h
  · cases h

/-! ### try: body / except C as n: y = n -/
def xisKey (c d : Str) : Str := "xis:" ++ c ++ ":" ++ d
def isX (gl : List (Str × GV)) (c d : Str) : Option Bool := match gl.lookup (xisKey c d) with
  | some (.xis c' d' b) => if c' = c ∧ d' = d then some b else none
  | _ => none
def sTryK (gl : List (Str × GV)) (i j : Nat) (c : Str) (b : CS) : CS := fun ρ W E => b ρ W (fun x ρ' => match isX gl x.c c with
  | some true => i < ρ'.length ∧ W.nx ((ρ'.set j (.sh (.exn x.c x.fs))).set i .no)
  | some false => E x ρ'
  | none => False)
theorem isX_is {X : Cx} {g : Sg} {E : EX} (ok : SgOk X g E) {c d : Str} {b : Bool} (h : isX g.gl c d = some b) : ∃ C Da, ClsAt X.K c C ∧ ClsAt X.K d Da ∧ PySem.W.kitOne X.K (.ref C) (.ref Da) = some b ∧ PySem.W.exmOne X.K (.ref C) (.ref Da) = some b := by
  unfold isX at h
  split at h
  · rename_i c' d' b' el
    split at h
    · rename_i q
      obtain ⟨rfl, rfl⟩ := q
      cases h
      exact ok.gl _ _ el
    · cases h
  · cases h
theorem SgOk.tr {X : Cx} {g : Sg} {E E' : EX} (ok : SgOk X g E) {pn : List (Addr × Obj)} {xe : Value → Shared → Prop} (tk : Takes (X.tr pn xe) (wX X.K E')) : SgOk (X.tr pn xe) { g with nt := true } E' where
  tk := tk
  N := ok.N
  nd := ok.nd
  sc := ok.sc
  kind := ok.kind
  calm := ok.calm
  gd := ok.gd
  un := ok.un
  st := ok.st
  gl := fun x v e => by
    have := ok.gl x v e
    cases v <;> exact this
  fr := ok.fr
  ef := fun h => by cases h
section
variable {X : Cx} {g : Sg} {E : EX} {x n y : Str} {np ep yp pos pos' pos3 : Pos} {body : List Stmt} {i j : Nat} {cb : CS}
theorem rs_tryK (ok : SgOk X g E) (hblk : g.blk = false) (hi : X.N[i]? = some n) (hln : X.env.kindOf n = some .local) (hj : X.N[j]? = some y) (hly : X.env.scope.names.lookup y = some .local) (hij : i ≠ j) (hg : Gl X x) (hdb : (x == ("__debug__" : Str)) = false) {Da : Addr} (hcd : ClsAt X.K x Da) (hmd : X.mg x = some (.ref Da))
    (hnd : (n == ("__debug__" : Str)) = false) (hnc : (n == ("__classdict__" : Str)) = false)
    (hp : PassesOwn (model X.prog X.w) X.A X.env X.xe) (hb : ∀ (pn : List (Addr × Obj)) (xe : Value → Shared → Prop) (E' : EX), SgOk (X.tr pn xe) { g with nt := true } E' → PassesOwn (model X.prog X.w) X.A X.env xe → PSs (X.tr pn xe) body (rdS X.K E' cb)) :
    PS X (.Try body [.ExceptHandler (some (.Name x np)) (some n) [.Assign [.Name y yp] (.Name n ep) pos3] pos'] [] [] pos) (rdS X.K E (sTryK g.gl i j x cb)) := by
  obtain ⟨hst, hfr, hex⟩ := ok.fr hblk
  have hvn : Vis X.env.scope n := .inl hln
  have nd : X.N.Nodup := by rw [ok.N]; exact ok.nd
  refine PS.imp (ps_try_keep (i := i) (c := .ref Da) (tb := fun W Dn σ H => ∃ E', (∀ cls d σ H, wX X.K E' cls d σ H → W cls d σ H) ∧ rdS X.K E' cb Dn σ H) (ts := fun _ => fun Dn σ H => (tVar i) σ H fun v H1 => gName j v σ H1 Dn.nx) hst hfr hex nd hi hln ⟨hg, hdb, .inl hmd⟩ ok.tk ?_ ?_) ?_
  · intro W pn xe tk hpx
    exact ⟨fun pins s σ H D I ⟨E', hi', h⟩ => (hb pn xe E' (ok.tr (tk.imp hi')) hpx).run pins s σ H D I h⟩
  · intro a oe pn
    exact pss_one (ps_set (X := X.suite a ((a, oe) :: pn)) nd hj (.inl hly) (pe_var (X := X.suite a ((a, oe) :: pn)) hi hvn hnd hnc) rfl (.inr hly))
  · rintro Dn σ H ⟨F, ρ, W, re, h, l⟩
    refine ⟨⟨E.B, E.F0, fun xn ρ' => match isX g.gl xn.c x with
      | some true => i < ρ'.length ∧ W.nx ((ρ'.set j (.sh (.exn xn.c xn.fs))).set i .no)
      | some false => E.e xn ρ'
      | none => False⟩, ?_, F, ρ, W, re, h, l⟩
    rintro cls d σ' H' ⟨F', ρ', xn, re', xr, q⟩
    dsimp only at q
    split at q
    · rename_i e
      obtain ⟨C, D2, h1, h2, h3, h4⟩ := isX_is ok e
      have := h2.one hcd
      subst this
      obtain ⟨C', k1, rfl, k2⟩ := xr
      have := k1.one h1
      subst this
      refine ⟨true, h4, fun _ a na => ?_, fun z => by cases z⟩
      have hil : i < σ'.length := by
        rw [re'.len]
        exact q.1
      refine ⟨.ref a, by rw [List.getElem?_set_self hil], ?_⟩
      refine ⟨na, ?_⟩
      have g2 := Grow.new re'.fh na (xhV a (.ref C') d)
      have re2 := re'.grow g2
      have nf : F' a = none := re'.fh.free na
      have rp : Rep X.K (upd F' a (xhV a (.ref C') d)) (.ref a) (.exn xn.c xn.fs) := by
        rcases k2 with ⟨dx, gs, rfl, hd, rf⟩ | ⟨rfl, hfs⟩
        · have hne : dx ≠ a := fun z => by rw [z, nf] at hd; cases hd
          exact .exn ⟨C', k1, .inl ⟨dx, upd_same, by rw [upd_ne hne]; exact hd⟩⟩ (rf.mono g2.f)
        · rw [hfs]
          exact .exn ⟨C', k1, .inr ⟨upd_same, rfl⟩⟩ .nil
      have e1 : ((σ'.set i (some (V.ref a))).set j (some (V.ref a))).set i none = (σ'.set j (some (V.ref a))).set i none := by
        rw [List.set_comm _ _ hij, List.set_set]
      rw [e1]
      exact l.nx _ _ _ _ ((re2.put_sh j rp).put_no i) q.2
    · rename_i e
      obtain ⟨C, D2, h1, h2, h3, h4⟩ := isX_is ok e
      have := h2.one hcd
      subst this
      obtain ⟨C', k1, rfl, k2⟩ := xr
      have := k1.one h1
      subst this
      exact ⟨false, h4, (fun z => by cases z), fun _ => ⟨F', ρ', xn, re', ⟨C', k1, rfl, k2⟩, q⟩⟩
    · exact q.elim
end

/-- a class of errors that the text names -/
def errB (g : Sg) (x : Str) : Bool := globB g x && match g.gl.lookup x with
  | some (.xb c) => decide (c = x)
  | some (.xc _) => true
  | _ => false
theorem errB_is {X : Cx} {g : Sg} {E : EX} (ok : SgOk X g E) {x : Str} (h : errB g x = true) : Gl X x ∧ (x == ("__debug__" : Str)) = false ∧ ∃ Da, ClsAt X.K x Da ∧ X.mg x = some (.ref Da) := by
  unfold errB at h
  rw [Bool.and_eq_true] at h
  obtain ⟨q1, q2⟩ := globB_is ok h.1
  refine ⟨q1, q2, ?_⟩
  have h2 := h.2
  split at h2
  · rename_i c el
    have := of_decide_eq_true h2
    subst this
    obtain ⟨C, h1, h2, _⟩ := ok.gl _ _ el
    exact ⟨C, h1, h2⟩
  · rename_i fo el
    obtain ⟨C, fI, fd, k, h1, h2, _⟩ := ok.gl _ _ el
    exact ⟨C, h1, h2⟩
  · cases h2
theorem idxOf_get {N : List Str} {x : Str} {i : Nat} (h : N.idxOf? x = some i) : N[i]? = some x := by
  rw [List.idxOf?, List.findIdx?_eq_some_iff_getElem] at h
  obtain ⟨hi, he, _⟩ := h
  rw [List.getElem?_eq_getElem hi]
  have : N[i] = x := by simpa using he
  rw [this]
def locB (g : Sg) (x : Str) : Bool := match g.sc.names.lookup x with
  | some .local => true
  | _ => false
theorem locB_is {X : Cx} {g : Sg} {E : EX} (ok : SgOk X g E) {x : Str} (h : locB g x = true) : X.env.scope.names.lookup x = some .local := by
  rw [ok.sc]
  unfold locB at h
  split at h
  · assumption
  · cases h
def sTryR : SR := fun r g st => match st with
  | .Try body [.ExceptHandler (some (.Name x _)) (some n) [.Assign [.Name y _] (.Name z _) _] _] [] [] _ =>
    if (!g.blk && decide (z = n) && locB g n && locB g y && !oddName n && errB g x && g.own.isEmpty) = true then match g.N.idxOf? n, g.N.idxOf? y, ssOf r { g with nt := true } body with
      | some i, some j, some b => if i = j then none else some (sTryK g.gl i j x b)
      | _, _, _ => none else none
  | _ => none
theorem sTryR_ok : SrOk sTryR := by
  intro r R X g E st c ok hp h
  unfold sTryR at h
  split at h
  · rename_i body x np n y yp z ep pos3 pos' pos
    split at h
    · rename_i hb
      simp only [Bool.and_eq_true, decide_eq_true_eq, Bool.not_eq_true'] at hb
      obtain ⟨⟨⟨⟨⟨⟨h1, h2⟩, h3⟩, h4⟩, h5⟩, h6⟩, h7⟩ := hb
      subst h2
      obtain ⟨q1, q2, Da, q3, q4⟩ := errB_is ok h6
      unfold oddName at h5
      rw [Bool.or_eq_false_iff] at h5
      split at h
      · rename_i i j b hi hj hbody
        split at h
        · cases h
        · rename_i hij
          cases h
          have gi : X.N[i]? = some z := by rw [ok.N]; exact idxOf_get hi
          have gj : X.N[j]? = some y := by rw [ok.N]; exact idxOf_get hj
          exact rs_tryK ok h1 gi (locB_is ok h3) gj (locB_is ok h4) hij q1 q2 q3 q4 h5.1 h5.2 hp fun pn xe E' ok' hp' => ssOf_ok R ok' hp' hbody
      · cases h
    · cases h
  · cases h
end DL
/-! errors that are held: isinstance, their fields -/
namespace PySem.W
open PySem PySem.Spec PySem.Calls PyProof.Rows
section
variable {prog : Program} {w : World} {A : Around} {E : Value → Shared → Prop} {s : Shared} {K : Frag} {x D : Addr} {ox : Obj} {od : Option Obj}
theorem findObj_dataO {C : Addr} {name : Str} {a g : Value} (hc : (clsIn K C).isSome = true) (ha : findIn K (.ref C) name = some (some a)) (hg : specialIn K a "__get__" = some (some g)) (ht : takesIn K a = some true) : findObj K C od name = some (.bind g a) := by
  obtain ⟨cd, hc⟩ := Option.isSome_iff_exists.mp hc
  unfold findObj
  rw [hc, Option.bind_some, ha, Option.bind_some]
  simp [hg, ht]
theorem kin_classO {Q : Option Value → Shared → Prop} (hga : findIn K (.ref D) "__getattribute__" = some (some (.builtin "BaseException.__getattribute__"))) (hgt : findIn K (.ref D) "__getattr__" = some none) (hsub : subIn K (.ref D) (.type "BaseException") = some true)
    (hdct : hasDictIn K D = true) (ha : findIn K (.ref D) "__class__" = some (some (.builtin "object.__class__")))
    (hn : specialIn K (.builtin "object.__class__") "__get__" = some (some (.builtin "getset_descriptor.__get__"))) (htk : takesIn K (.builtin "object.__class__") = some true) (hm : mroIn K D (.type "object") = some true)
    (X : K.In s.heap) (I : InstAt s.heap x ox D od) (h : Q (some (.ref D)) { s with toks := s.toks + 1 }) : wpAny (model prog w) A (getAttr? (.ref x) "__class__") Q E s := by
  have hf : findObj K D od "__class__" = some (.bind (.builtin "getset_descriptor.__get__") (.builtin "object.__class__")) := findObj_dataO (by obtain ⟨cd, hc, _⟩ := any_some hdct; rw [hc]; rfl) ha hn htk
  obtain ⟨hp, g, d, t, os⟩ := s
  have L0 := I.type (M := model prog w)
  have L1 := looks_findIn (M := model prog w) X hga
  have L2 := looks_findIn (M := model prog w) X hgt
  have L3 := looks_find (M := model prog w) X I hf
  have sub : Looks (model prog w) hp (isInstance (.ref x) (.type "BaseException")) true := L0.andThen (looks_subIn X hsub)
  have hx0 : (false && onTheHeap (Value.builtin "BaseException.__getattribute__")) = false := rfl
  have hx2 : (Value.builtin "BaseException.__getattribute__" == Value.builtin "object.__getattribute__") = false := by decide +kernel
  have hx1 : (onTheHeap (Value.ref D) && Value.builtin "BaseException.__getattribute__" == Value.builtin "object.__getattribute__") = false := by rw [hx2]; rfl
  unfold getAttr? getAttrBy? getAttrBy
  refine wpAny_bind (wpAny_mkText (wpAny_bind (wpAny_attempt (wpAny_holding (wpAny_bind (L0.at (wpAny_bind (L1.at ?_))))))))
  show wpAny _ _ (if (onTheHeap (Value.ref D) && Value.builtin "BaseException.__getattribute__" == Value.builtin "object.__getattribute__") = true then _ else _) _ _ _
  rw [hx1, if_neg Bool.false_ne_true]
  unfold getAttrByItsOwn hookBefore
  refine wpAny_bind ?_
  rw [if_pos (show onTheHeap (Value.ref D) = true from rfl)]
  refine L2.at ?_
  refine wpAny_bind (wpAny_attempt (wpAny_holding ?_))
  unfold callGetattribute
  rw [hx0, if_neg Bool.false_ne_true]
  unfold boundAndCalled
  rw [PySem.F.excAttr_ValueError.ga.bind (.ref x)]
  refine wpAny_bind (wpAny_pure ?_)
  show wpAny _ _ (call (.builtin "BaseException.__getattribute__") [.ref x, .str "__class__" t]) _ _ _
  refine wpAny_call (codeAny_call_builtin PySem.F.excAttr_ValueError.ga.plain PySem.F.entry_bexc_ga ?_)
  refine @check_slot (model prog w) _ _ ⟨hp, g, d, t + 1, os⟩ "BaseException.__getattribute__" "BaseException" "__getattribute__" (.ref x) [.str "__class__" t] [] _ (by decide +kernel) (by decide +kernel) sub (PySem.F.args_bexc_ga (.ref x) (.str "__class__" t)) ?_
  unfold Builtin.«object.__getattribute__»
  refine wpAny_bind (wpAny_of_eq (a := ((Value.ref x : Value), [Value.str "__class__" t])) (by first | rfl | (simp only [slotArgs]; rfl)) ?_)
  refine wpAny_bind (wpAny_pure (wpAny_bind (L0.at (wpAny_bind (L3.at ?_)))))
  show wpAny _ _ (holding [Value.builtin "object.__class__"] (call (.builtin "getset_descriptor.__get__") [.builtin "object.__class__", .ref x, .ref D]) >>= ret) _ _ _
  refine wpAny_bind (wpAny_holding (wpAny_call (class_get (s := ⟨hp, g, d, t + 1, os⟩) (ox := ox) (od := od) X I hm ?_)))
  refine wpAny_pure ?_
  show wpAny _ _ (handedOut (.ref D)) _ _ _
  rw [handedOut_of (v := .ref D) rfl]
  first
    | exact wpAny_pure (wpAny_pure h)
    | exact wpAny_pure h
    | exact wpAny_pure (wpAny_bind (wpAny_pure (wpAny_pure h)))
theorem kitx_excO (hga : findIn K (.ref D) "__getattribute__" = some (some (.builtin "BaseException.__getattribute__"))) (hgt : findIn K (.ref D) "__getattr__" = some none) (hsub : subIn K (.ref D) (.type "BaseException") = some true) (hdct : hasDictIn K D = true) (ha : findIn K (.ref D) "__class__" = some (some (.builtin "object.__class__")))
    (hn : specialIn K (.builtin "object.__class__") "__get__" = some (some (.builtin "getset_descriptor.__get__"))) (htk : takesIn K (.builtin "object.__class__") = some true) (hm : mroIn K D (.type "object") = some true) :
    KitX K (.ref x) (.ref D) (fun h => InstAt h x ox D od) where
  ty := fun _ _ _ I => I.type
  it := fun _ _ X _ => by
    obtain ⟨cdD, hcD, _⟩ := any_some hdct
    unfold clsIn at hcD
    split at hcD
    · rename_i c' d' cd' sl' ho
      intro A' Q' E' s' k q
      unfold isType loadHead
      exact wpAny_bind (wpAny_loadPart (k _ _ (X _ _ ho)) (wpAny_pure q))
    · cases hcD
  ne := fun h tp dd its n sl X htp => by
    obtain ⟨cdD, hcD, _⟩ := any_some hdct
    refine Bool.eq_false_iff.mpr fun q => ?_
    have e : D = tp := Value.ref.inj (beq_iff_eq.mp q)
    subst e
    unfold clsIn at hcD
    split at hcD
    · rename_i c' d' cd' sl' ho
      have z := (X _ _ ho).symm.trans htp
      cases z
    · cases hcD
  ca := fun X I k => kin_classO hga hgt hsub hdct ha hn htk hm X I k
end
end PySem.W
namespace L2
open PySem PySem.Spec PyProof.Rows
/-- at a: an error that is known -/
def XAt (H : Hp) (a C : Addr) (d : Option Addr) : Prop := H a = some (xhV a (.ref C) d) ∧ (d = none ∨ ∃ dx gs, d = some dx ∧ H dx = some (.xd gs))
theorem XAt.inst {X : Cx} {pins : List (Addr × Obj)} {σ : St} {H : Hp} {s : Shared} {a C : Addr} {d : Option Addr} (I : Inv X pins σ H s) (h : XAt H a C d) : ∃ oe od, PySem.W.InstAt s.heap a oe C od := by
  obtain ⟨ea, hd⟩ := h
  have hx : ObjOk X.prog X.w H s.heap a (xhV a (.ref C) d) := I.hok a _ ea
  obtain ⟨⟨oe, vs, e1, e2, e3, e4⟩, _, _⟩ := hx
  obtain ⟨oc, odi, oda, osl⟩ := oe
  dsimp only at e2 e3 e4
  subst e2 e3 e4
  rcases hd with rfl | ⟨dx, gs, rfl, ed⟩
  · exact ⟨_, none, e1, rfl, rfl, trivial⟩
  · have hx2 : ObjOk X.prog X.w H s.heap dx (.xd gs) := I.hok dx _ ed
    obtain ⟨mA, hns, hr⟩ := hx2
    obtain ⟨od, ho, hl⟩ := lookIn_ns hns
    exact ⟨_, some od, e1, rfl, rfl, ho⟩
def rIsX (K : PySem.W.Frag) : List V → Hp → VK → Prop := fun xs H Q => ∃ (a D : Addr) (d : Option Addr) (c : V) (cv : Value) (b : Bool), xs = [.ref a, c] ∧ ExcC K D ∧ XAt H a D d ∧ (∀ u, RelV c u → u = cv) ∧ PySem.W.kitOne K (.ref D) cv = some b ∧ Q (.bl b) H
theorem call_isX {X : Cx} : CallR X (.builtin "isinstance") (rIsX X.K) := by
  intro pins s σ H xs us Q I r h
  obtain ⟨a, D, d, c, cv, b, rfl, C, hz, hcv, e, q⟩ := h
  cases r with
  | cons rx rr =>
    cases rr with
    | cons rt rr =>
      cases rr
      cases rx
      have ec := hcv _ rt
      subst ec
      obtain ⟨oe, od, J⟩ := hz.inst I
      exact PySem.W.kia_one (PySem.W.kitx_excO C.hg C.hk C.hs C.hd C.ha C.hn C.ht C.hm) I.kIn J e (fun z => nomatch z) fun tk => ⟨.bl b, H, I.kept (t' := tk) fun _ _ z => z, rfl, q⟩
/-- e.f of an error that is known -/
def rXf (K : PySem.W.Frag) (f : Str) (x : V) (H : Hp) (Q : VK) : Prop := ∃ (a C dx : Addr) (gs : List (Str × V)) (v : V), x = .ref a ∧ XfC K C ∧ PySem.W.findIn K (.ref C) f = some none ∧ XAt H a C (some dx) ∧ H dx = some (.xd gs) ∧ gs.lookup f = some v ∧ Q v H
theorem getx_ok {X : Cx} {pins : List (Addr × Obj)} {σ : St} {H : Hp} {s : Shared} {f : Str} {x : V} {u : Value} {Q : VK} {expr : Bool} (I : Inv X pins σ H s) (rx : RelV x u) (h : rXf X.K f x H Q) : wpAny (model X.prog X.w) X.A (getAttr u f expr) (EP X pins σ Q) X.xe s := by
  obtain ⟨a, C, dx, gs, v, rfl, T, hno, ⟨ea, _⟩, ed, l, q⟩ := h
  obtain rfl : u = Value.ref a := rx
  have hx : ObjOk X.prog X.w H s.heap a (xhV a (.ref C) (some dx)) := I.hok a _ ea
  obtain ⟨⟨oe, vs, e1, e2, e3, e4⟩, _, _⟩ := hx
  have hx2 : ObjOk X.prog X.w H s.heap dx (.xd gs) := I.hok dx _ ed
  obtain ⟨mA, hns, hr⟩ := hx2
  obtain ⟨od, ho, hl⟩ := lookIn_ns hns
  obtain ⟨w, hw, ru⟩ := RelO.some_of (v := v) (o := mA f) (by rw [← l]; exact hr f)
  have J : PySem.W.InstAt s.heap a oe C (some od) := ⟨e1, e2, by unfold PySem.W.notCls; rw [e4] <;> rfl, by rw [e3]; exact ho⟩
  exact HandSPX.exc_get I.kIn J T.ga T.gg T.exC (PySem.W.findObj_own T.hdC hno rfl (by rw [hl, hw])) (handed_of ru) ⟨v, H, I.tok _, ru, q⟩
end L2
namespace DL
open PySem L2 PySem.Spec PyProof.Rows
/-! ### isinstance of an error that is held -/
def xitKey (c : Str) (T : String) : Str := "xit:" ++ c ++ ":" ++ Str.ofString T
inductive XT where
  | own (d : Str)
  | blt (T : String)
def isxV (gl : List (Str × GV)) (c : Str) : XT → Option Bool
  | .own d => isX gl c d
  | .blt T => match gl.lookup (xitKey c T) with
    | some (.xit c' T' b) => if c' = c ∧ T' = T then some b else none
    | _ => none
def isxM (gl : List (Str × GV)) (t : XT) (d : D) : M (D × Bool) := fun Q _ => match d with
  | .exn c _ => match gl.lookup c, isxV gl c t with
    | some (.xc _), some b => Q (.bl b, false)
    | _, _ => False
  | _ => False
def cIsx (gl : List (Str × GV)) (a : CB) (t : XT) : CV := fun ρ => bnd (a ρ) (isxM gl t)
theorem Bor.exn {K : PySem.W.Frag} {F H : Hp} {v : V} {c : Str} {fs : List (Str × D)} (b : Bor K F H v (.exn c fs)) : ∃ a gs, v = .ref a ∧ ExnAt K F a c gs ∧ RepF K F gs fs := by
  rcases b with b | ⟨p, rfl, o⟩
  · cases b with
    | exn h r => exact ⟨_, _, rfl, h, r⟩
  · exact o.elim
theorem ExnAt.at {K : PySem.W.Frag} {F H : Hp} {a C : Addr} {c : Str} {gs : List (Str × V)} (s : Same F H) (h : ExnAt K F a c gs) (hc : ClsAt K c C) : ∃ d, XAt H a C d ∧ (∀ dx, d = some dx → H dx = some (.xd gs)) ∧ (d = none → gs = []) := by
  obtain ⟨C', hc', ⟨dx, h1, h2⟩ | ⟨h1, h2⟩⟩ := h
  · have := hc.one hc'
    subst this
    exact ⟨some dx, ⟨s _ _ h1, .inr ⟨dx, gs, rfl, s _ _ h2⟩⟩, fun _ e => (by cases e; exact s _ _ h2), fun e => by cases e⟩
  · have := hc.one hc'
    subst this
    exact ⟨none, ⟨s _ _ h1, .inl rfl⟩, fun _ e => (by cases e), fun _ => h2⟩
section
variable {X : Cx} {g : Sg} {E : EX} {a : Expr} {xa : CB} {y : Str} {p p2 pos : Pos}
theorem re_isx {t : XT} {cv : V} {cu : Value} (ok : SgOk X g E) (hg : Gl X "isinstance") (hm : X.mg "isinstance" = none) (ha : PE X a (rdB X.K E xa)) (hpl : plainE a = true) (hc : PE X (.Name y p2) (tC cv)) (hv : ∀ u, RelV cv u → u = cu) (hk : ∀ c C b, ClsAt X.K c C → isxV g.gl c t = some b → PySem.W.kitOne X.K (.ref C) cu = some b) :
    PE X (.Call (.Name "isinstance" p) [a, .Name y p2] [] pos) (rdV X.K E (cIsx g.gl xa t)) := by
  refine (pe_callB call_isX hg hm PyProof.Rows.boot_isinstance (pa_cons ha (pa_cons hc pa_nil rfl) (plain_star hpl)) (by decide) (by decide) (plain_star hpl) rfl).imp fun σ H Q' ⟨F, ρ, Q, re, h, k⟩ => ?_
  refine ⟨F, ρ, _, re, h, fun v H1 F1 d g1 b1 q => ?_⟩
  unfold isxM at q
  split at q
  · rename_i c fs
    split at q
    · rename_i fo b el hb
      obtain ⟨C, fI, fd, j, hcl, hmg, M, XC', XF, hr⟩ := ok.gl _ _ el
      obtain ⟨a', gs, rfl, hx, rf⟩ := b1.exn
      obtain ⟨dd, xa', _⟩ := hx.at g1.fh hcl
      exact ⟨a', C, dd, cv, cu, b, rfl, XC', xa', hv, hk _ _ _ hcl hb, k _ H1 F1 (.bl b, false) g1 (Val.of (.bl _)) q⟩
    · exact q.elim
  · exact q.elim
end
def vIsx : VR := fun r g e => match e with
  | .Call (.Name x _) [a, .Name y _] [] _ => if (spB g x "isinstance" && plainE a) = true then (if errB g y = true then (bOf r g a).map fun c => cIsx g.gl c (.own y)
    else if globB g y = true then match g.gl.lookup y with
      | some (.bt T) => (bOf r g a).map fun c => cIsx g.gl c (.blt T)
      | _ => none else none) else none
  | _ => none
theorem vIsx_ok : VrOk vIsx := by
  intro r R X g E e c ok h
  unfold vIsx at h
  split at h
  · split at h
    · rename_i hs
      rw [Bool.and_eq_true] at hs
      obtain ⟨rfl, q1, q2⟩ := spB_is ok hs.1
      split at h
      · rename_i he
        obtain ⟨xa, hb, rfl⟩ := map_some h
        obtain ⟨w1, w2, Da, w3, w4⟩ := errB_is ok he
        refine re_isx ok q1 q2 (bOf_ok R ok hb) hs.2 (cv := .ref Da) (cu := .ref Da) (pe_glob w1 w4 rfl w2) (fun u r => r) ?_
        intro c C b hc hv
        obtain ⟨C', D', k1, k2, k3, _⟩ := isX_is ok hv
        have := k1.one hc
        subst this
        have := k2.one w3
        subst this
        exact k3
      · split at h
        · rename_i hgl
          obtain ⟨w1, w2⟩ := globB_is ok hgl
          split at h
          · rename_i T el
            obtain ⟨xa, hb, rfl⟩ := map_some h
            obtain ⟨m1, m2, m3⟩ := ok.gl _ _ el
            refine re_isx ok q1 q2 (bOf_ok R ok hb) hs.2 (cv := .ty T) (cu := .type T) (pe_bltn w1 m1 m2 rfl m3 w2) (fun u r => r) ?_
            intro c C b hc hv
            unfold isxV at hv
            dsimp only at hv
            split at hv
            · rename_i c' T' b' el2
              split at hv
              · rename_i e2
                obtain ⟨rfl, rfl⟩ := e2
                cases hv
                obtain ⟨C', k1, k2⟩ := ok.gl _ _ el2
                have := k1.one hc
                subst this
                exact k2
              · cases hv
            · cases hv
          · cases h
        · cases h
    · cases h
  · cases h

/-! ### fields of an error that is held -/
def tAttU (X : Cx) (f : Str) (te : TE) : TE := fun σ H Q => te σ H fun x H1 => rXf X.K f x H1 Q ∨ tAttC X f (fun _ H2 Q2 => Q2 x H2) σ H1 Q
theorem pe_attU {X : Cx} {f : Str} {e : Expr} {pos : Pos} {te : TE} (he : PE X e te) (gd : X.A.guards = some []) (hb : attributeBase e f X.env (eval e X.env) = eval e X.env) : PE X (.Attribute e f pos) (tAttU X f te) :=
  ⟨fun pins s σ H Q I h => by
    refine attr_of hb (thn (he.run pins s σ H _ I h) ?_)
    rintro u s1 ⟨x, H1, I1, rx, h1 | ⟨a, C, dx, fs, rfl, ea, c, h2⟩⟩
    · exact getx_ok I1 rx h1
    · cases rx
      rcases h2 with ⟨n, v, l, q⟩ | ⟨v, u, k, l, q⟩ | ⟨k, p, g, fd, ps, sp, hp, F, hr, hbd, q⟩
      · exact getattr_ok I1 ea c n l fun u' s2 I2 ru => ⟨v, H1, I2, ru, q⟩
      · exact getcon_ok I1 ea c k l fun s2 I2 => ⟨v, H1, I2, k.rel, q⟩
      · exact propG I1 ea c hp F hr gd hbd q⟩
def attX (gl : List (Str × GV)) (f : Str) (o : D) : M (D × Bool) := fun Q E => match o with
  | .exn c fs => match gl.lookup c with
    | some (.xc (some f')) => f' = f ∧ match fs.lookup f with
      | some d => Q (d, false)
      | none => False
    | _ => False
  | o => attM gl f o Q E
def cAtx (gl : List (Str × GV)) (f : Str) (a : CB) : CV := fun ρ => bnd (a ρ) (attX gl f)
theorem re_atx {X : Cx} {g : Sg} {E : EX} {e : Expr} {f : Str} {xa : CB} {pos : Pos} (ok : SgOk X g E) (ha : PE X e (rdF X.K E xa)) (hb : attributeBase e f X.env (eval e X.env) = eval e X.env) : PE X (.Attribute e f pos) (rdV X.K E (cAtx g.gl f xa)) :=
  (pe_attU ha ok.gd hb).imp fun σ H Q' ⟨F, ρ, Q, re, h, kq⟩ => ⟨F, ρ, _, re, h, fun v H1 F1 d g1 b1 h1 => by
    unfold attX at h1
    split at h1
    · rename_i c fs
      split at h1
      · rename_i f' el
        obtain ⟨rfl, h1⟩ := h1
        split at h1
        · rename_i d' ed
          obtain ⟨C, fI, fd, j, hcl, hmg, M, XC', XF, hr⟩ := ok.gl _ _ el
          cases b1 with
          | @exn a _ gs _ hx rf =>
            obtain ⟨dd, xa', hd, hn⟩ := hx.at (re.grow g1).fh hcl
            obtain ⟨w, lw, rw'⟩ := rf.look ed
            cases dd with
            | none =>
              have := hn rfl
              subst this
              cases lw
            | some dx =>
              exact .inl ⟨a, C, dx, gs, w, rfl, XF, (M.f1 _ rfl).1, xa', hd dx rfl, lw, kq w H1 F1 (d', false) g1 (Val.of rw') h1⟩
        · exact h1.elim
      · exact h1.elim
    · clear ha
      rename_i hno
      refine .inr ?_
      clear hno
      unfold attM at h1
      split at h1
      · rename_i c fs
        cases b1 with
        | @obj a _ gs _ oa rf =>
          obtain ⟨C', dx, hc', hi⟩ := oa
          have hi1 := (re.grow g1).fh _ _ hi
          split at h1
          · rename_i c' f' mm el
            obtain ⟨⟨rfl, rfl⟩, h1⟩ := h1
            obtain ⟨C, k, p, gg, fd, ps, hc, hcl, hp, hF, hr, hbd, hn⟩ := ok.gl _ _ el
            have := hc.one hc'
            subst this
            rw [← hn] at h1
            have rr : RepL X.K F1 [V.ref a] [.obj c' fs] := .cons (Rep.obj ⟨C, dx, hc, hi⟩ rf) .nil
            exact ⟨a, C, dx, gs, rfl, hi1, hcl, .inr (.inr ⟨k, p, gg, fd, ps, _, hp, hF, hr, hbd, sp_of (fl := false) kq g1 rr h1 fun _ _ _ _ _ _ _ q => q⟩)⟩
          · rename_i c' f' d' el
            obtain ⟨⟨rfl, rfl, hl⟩, h1⟩ := h1
            obtain ⟨C, v, u, hc, hcl, hk, hrep⟩ := ok.gl _ _ el
            have := hc.one hc'
            subst this
            exact ⟨a, C, dx, gs, rfl, hi1, hcl, .inr (.inl ⟨v, u, hk, rf.none hl, kq v H1 F1 (d', false) g1 (Val.of (hrep F1)) h1⟩)⟩
          · obtain ⟨hf, h1⟩ := h1
            split at h1
            · rename_i d' el
              obtain ⟨C, hc, hm, hcl, hno⟩ := clsF_is ok hf
              have := hc.one hc'
              subst this
              obtain ⟨w, lw, rw'⟩ := rf.look el
              exact ⟨a, C, dx, gs, rfl, hi1, hcl, .inl ⟨hno, w, lw, kq w H1 F1 (d', false) g1 (Val.of rw') h1⟩⟩
            · exact h1.elim
      · exact h1.elim⟩
def vAtx : VR := fun r g e => match e with
  | .Attribute a f _ => match ownNm g a with
    | some _ => none
    | none => if noSupE a = true then (fOf r g a).map (cAtx g.gl f) else none
  | _ => none
theorem vAtx_ok : VrOk vAtx := by
  intro r R X g E e c ok h
  unfold vAtx at h
  split at h
  · split at h
    · cases h
    · split at h
      · rename_i hp
        obtain ⟨xa, h1, rfl⟩ := map_some h
        exact re_atx ok (fOf_ok R ok h1) (noSup_base hp)
      · cases h
  · cases h
/-- .. with errors -/
def withX (R : Rules) : Rules where
  v := vIsx :: vAtx :: R.v
  i := R.i
  s := sRaiseR :: sTryR :: R.s
  t := R.t
theorem withX_ok {R : Rules} (O : RulesOk R) : RulesOk (withX R) where
  v := fun f hf => by
    simp only [withX, List.mem_cons] at hf
    rcases hf with rfl | rfl | hf
    · exact @vIsx_ok
    · exact @vAtx_ok
    · exact O.v f hf
  i := O.i
  s := fun f hf => by
    simp only [withX, List.mem_cons] at hf
    rcases hf with rfl | rfl | hf
    · exact @sRaiseR_ok
    · exact @sTryR_ok
    · exact O.s f hf
  t := O.t
end DL
namespace DL
open PySem L2 PySem.Spec PyProof.Rows
theorem plainC {n : Nat} {xs : List PyData} (h : PyData.canLayAll0 xs = true) : PyData.plainAll xs = true := by
  have := PyData.plain_of_canLay0 (.list xs) (by rw [PyData.canLay0]; exact h)
  rw [PyData.plain] at this
  exact this
/-! ### xs.count(e) -/
def countM : D → D → M (D × Bool)
  | .lst ds, y => fun Q _ => match pyL ds, y.py with
    | some ps, some p => (PyData.canLayAll0 ps = true ∧ p.canLay0 = true ∧ p.depth ≤ 60) ∧ Q (.int ((ps.countP fun z => PyData.eqv z p : Nat) : Int), false)
    | _, _ => False
  | _, _ => fail
def isL : D → Bool
  | .lst _ => true
  | _ => false
def cCount (a b : CB) : CV := fun ρ => bnd (a ρ) fun x Q E => isL x = true ∧ b ρ (fun y => countM x y Q E) E
section
variable {X : Cx} {E : EX} {g : Sg} {o e : Expr} {xo xe : CB} {ap cp : Pos}
theorem mk_M1 {m : Str} (ho : noSupE o = true) (hp : plainE e = true) (hl : (ap.endLine == cp.line) = true) : M1 X o m ap e cp where
  base := noSup_base ho
  few := by cases e <;> first | rfl | cases hp
  line := hl
  trees := by cases e <;> first | rfl | cases hp
theorem re_count (ok : SgOk X g E) (ha : PE X o (rdB X.K E xo)) (hb : PE X e (rdB X.K E xe)) (m : M1 X o "count" ap e cp) : PE X (.Call (.Attribute o "count" ap) [e] [] cp) (rdV X.K E (cCount xo xe)) := by
  refine ⟨fun pins s σ H Q' I h => ?_⟩
  obtain ⟨F, ρ, Q, re, h, k⟩ := h
  have h : xo ρ (fun d => isL d = true ∧ xe ρ (fun y => countM d y Q (E.at ρ)) (E.at ρ)) (E.at ρ) := h
  refine wpAny_Call_method m.base m.few m.line PySem.F.plainAttrs_list PySem.F.slot_list_count PySem.F.type_list_count (thn (ha.run pins s σ H (fun v H1 => ∃ F1 d, Grow F H F1 H1 ∧ Bor X.K F1 H1 v d ∧ isL d = true ∧ xe ρ (fun y => countM d y Q (E.at ρ)) (E.at ρ)) I ⟨F, ρ, _, re, h, fun v H1 F1 d g1 b1 h1 => ⟨F1, d, g1, b1, h1⟩⟩) fun u s1 ⟨x, H1, I1, rx, F1, d, g1, b1, hl, h1⟩ => ?_)
  have lst : ∃ ds, d = .lst ds := by
    cases d <;> first | exact ⟨_, rfl⟩ | cases hl
  obtain ⟨ds, rfl⟩ := lst
  obtain ⟨a, vs, rfl, ea, rl⟩ := b1.lst g1.fh
  cases rx
  obtain ⟨hz, its, n, rv, ho⟩ := I1.hok a _ ea
  refine ⟨⟨_, ho, rfl⟩, fun b q => (by cases q; exact ⟨_, ho, rfl⟩), ?_⟩
  rw [m.trees]
  refine Calls.callWith_builtin rfl (Calls.evalArgs_plain (Calls.spliced_cons (thn (hb.run pins s1 σ H1 (fun v H2 => ∃ F2 d2, Grow F1 H1 F2 H2 ∧ Bor X.K F2 H2 v d2 ∧ countM (.lst ds) d2 Q (E.at ρ)) I1 ⟨F1, ρ, _, re.grow g1, h1, fun v H2 F2 d2 g2 b2 h2 => ⟨F2, d2, g2, b2, h2⟩⟩) fun iv s2 ⟨y, H2, I2, ry, F2, d2, g2, b2, h2⟩ => Calls.spliced_nil ?_)))
  have h2 : (match pyL ds, d2.py with | some ps, some p => (PyData.canLayAll0 ps = true ∧ p.canLay0 = true ∧ p.depth ≤ 60) ∧ Q (.int ((ps.countP fun z => PyData.eqv z p : Nat) : Int), false) | _, _ => False) := h2
  split at h2
  · rename_i ps p e1 e2
    obtain ⟨⟨c1, c2, c3⟩, q⟩ := h2
    have ea2 := g2.h _ _ ea
    obtain ⟨hz2, its2, n2, rv2, ho2⟩ := I2.hok a _ ea2
    obtain ⟨as, rds⟩ := Dp.readsAll I2 ps vs its2 ((rl.mono (g2.f.trans g2.fh)).dp e1) rv2
    obtain ⟨bs, rdy⟩ := Dp.reads I2 p y iv ((b2.rep g2.fh).dp e2) ry
    refine SeqAt.count_list_data (vs := its2.toArray) ⟨_, ho2, rfl, n2, rfl⟩ (by simpa using rds) rdy (plainC (n := 0) c1) (PyData.plain_of_canLay0 _ c2) (by have := ok.un; omega) ⟨.int _, H2, I2.tok _, ⟨_, rfl⟩, ?_⟩
    exact k _ H2 F2 (_, false) (g1.trans g2) (Val.of (.int _)) q
  · exact h2.elim
/-! ### d.get(e, f) -/
def getM2 : D → D → D → M (D × Bool)
  | .dct kvs, y, z => fun Q _ => match keyD y with
    | some k => Q ((getKD kvs k).getD z, false)
    | none => False
  | _, _, _ => fail
def isDc : D → Bool
  | .dct _ => true
  | _ => false
def cGet2 (a b c : CB) : CV := fun ρ => bnd (a ρ) fun x Q E => isDc x = true ∧ b ρ (fun y => c ρ (fun z => getM2 x y z Q E) E) E
theorem mk_M2 {m : Str} {f : Expr} (ho : noSupE o = true) (hp : plainE e = true) (hf : plainE f = true) (hl : (ap.endLine == cp.line) = true) : M2 X o m ap e f cp where
  base := noSup_base ho
  few := by rw [plain_star hp, plain_star hf]; rfl
  line := hl
  trees := by rw [plain_star hp, plain_star hf]; rfl
theorem Bor.dct {K : PySem.W.Frag} {F H : Hp} (s : Same F H) {v : V} {kvs : List (D × D)} (b : Bor K F H v (.dct kvs)) : ∃ a ks, v = .ref a ∧ H a = some (.dK ks) ∧ RepK K F ks kvs := by
  rcases b with b | ⟨p, rfl, ks, h, r⟩
  · cases b with
    | dct h r => exact ⟨_, _, rfl, s _ _ h, r⟩
  · exact ⟨p, ks, rfl, h, r⟩
theorem re_get2 {f : Expr} {xf : CB} (ok : SgOk X g E) (ha : PE X o (rdB X.K E xo)) (hb : PE X e (rdB X.K E xe)) (hf : PE X f (rdF X.K E xf)) (m : M2 X o "get" ap e f cp) : PE X (.Call (.Attribute o "get" ap) [e, f] [] cp) (rdV X.K E (cGet2 xo xe xf)) :=
  (pe_dget2 (by have := ok.un; omega) ha hb hf m).imp fun σ H Q' ⟨F, ρ, Q, re, h, k⟩ => by
    have h : xo ρ (fun d => isDc d = true ∧ xe ρ (fun y => xf ρ (fun z => getM2 d y z Q (E.at ρ)) (E.at ρ)) (E.at ρ)) (E.at ρ) := h
    refine ⟨F, ρ, _, re, h, fun v H1 F1 d g1 b1 ⟨hd, h1⟩ => ?_⟩
    have dc : ∃ kvs, d = .dct kvs := by
      cases d <;> first | exact ⟨_, rfl⟩ | cases hd
    obtain ⟨kvs, rfl⟩ := dc
    obtain ⟨a, ks, rfl, ea, rk⟩ := b1.dct g1.fh
    refine ⟨a, rfl, .inl ⟨ks, .inl ea⟩, F1, ρ, _, re.grow g1, h1, fun y H2 F2 d2 g2 b2 h2 => ⟨F2, ρ, _, (re.grow g1).grow g2, h2, fun z H3 F3 d3 g3 r3 h3 => ?_⟩⟩
    have h3 : (match keyD d2 with | some k => Q ((getKD kvs k).getD d3, false) | none => False) := h3
    split at h3
    · rename_i key ek
      have hy := key_rep (b2.grow g3) ek
      subst hy
      have ea3 := (g2.trans g3).h _ _ ea
      refine ⟨_, DGet.k (k := key) ea3, ?_⟩
      have rk3 := rk.mono (g2.trans g3).f
      cases hg : getKD kvs key with
      | none =>
        rw [(RepK.get (k := key) rk3).2 hg]
        rw [hg] at h3
        exact k _ H3 F3 (d3, false) ((g1.trans g2).trans g3) (Val.of r3) h3
      | some d4 =>
        obtain ⟨w, hw, rw'⟩ := (RepK.get (k := key) rk3).1 d4 hg
        rw [hw]
        rw [hg] at h3
        exact k _ H3 F3 (d4, false) ((g1.trans g2).trans g3) (Val.of rw') h3
    · exact h3.elim
/-! ### C(e, ..), C a class of errors, held -/
def cMakeX (c : Str) (fo : Option Str) (l : CL) : CV := fun ρ => bnd (l ρ) fun ds Q _ => match fo, ds with
  | none, [] => Q (.exn c [], false)
  | some f, [d] => Q (.exn c [(f, d)], false)
  | _, _ => False
theorem mk_held {pins : List (Addr × Obj)} {σ : L2.St} {W : XK} {Q' : VK} {u : Value} {s' : Shared} (h : MkP X pins σ W u s') (hw : ∀ cls d H a, W cls d H → H a = none → Q' (.ref a) (upd H a (xhV a cls d))) : EP X pins σ Q' u s' := by
  obtain ⟨a, oe, vs, sI, H', cls, d, rfl, I, keep, nI, ea, hz, hd, _, na, os, ag, _, q⟩ := h
  obtain ⟨hp, gn, dr, tk, o⟩ := s'
  refine ⟨.ref a, _, ?_, rfl, hw _ _ _ _ q na⟩
  have J := Inv.laidN (h' := hp) (a := a) (o := xhV a cls d) (t' := tk) I keep nI na (xhV_ok ea hz hd)
  exact ⟨J.ok, by rw [← J.os]; exact os.trans (by rfl), ag, J.base, J.loc, J.cell, J.free, J.freeC, J.pin, J.hok, J.len⟩
end
end DL
namespace DL
open PySem L2 PySem.Spec PyProof.Rows
/-- methods of built-in values -/
def vMethB : VR := fun r g e => match e with
  | .Call (.Attribute o m ap) [a] [] cp => if (noSupE o && plainE a && (ap.endLine == cp.line) && decide (m = ("count" : Str))) = true then match bOf r g o, bOf r g a with
    | some x, some y => some (cCount x y)
    | _, _ => none else none
  | .Call (.Attribute o m ap) [a, b] [] cp => if (noSupE o && plainE a && plainE b && (ap.endLine == cp.line) && decide (m = ("get" : Str))) = true then match bOf r g o, bOf r g a, fOf r g b with
    | some x, some y, some z => some (cGet2 x y z)
    | _, _, _ => none else none
  | _ => none
theorem vMethB_ok : VrOk vMethB := by
  intro r R X g E e c ok h
  unfold vMethB at h
  split at h
  · split at h
    · rename_i hb
      simp only [Bool.and_eq_true, decide_eq_true_eq] at hb
      obtain ⟨⟨⟨h1, h2⟩, h3⟩, rfl⟩ := hb
      split at h
      · cases h
        exact re_count ok (bOf_ok R ok ‹_›) (bOf_ok R ok ‹_›) (mk_M1 h1 h2 h3)
      · cases h
    · cases h
  · split at h
    · rename_i hb
      simp only [Bool.and_eq_true, decide_eq_true_eq] at hb
      obtain ⟨⟨⟨⟨h1, h2⟩, h4⟩, h3⟩, rfl⟩ := hb
      split at h
      · cases h
        exact re_get2 ok (bOf_ok R ok ‹_›) (bOf_ok R ok ‹_›) (fOf_ok R ok ‹_›) (mk_M2 h1 h2 h4 h3)
      · cases h
    · cases h
  · cases h
/-! ### names and constants: a, b = (None, None) -/
theorem stores_const {X : Cx} {ts vs : List Expr} {k k2 : Nat} {p p2 : Pos} (h : vs.all (foldedForSure 8) = true) : swappedStores [.Tuple ts k p] (.Tuple vs k2 p2) X.env = pure none := by
  unfold swappedStores
  dsimp only
  repeat' (first | rfl | (rw [if_pos h]; rfl) | split)
def sTupC : SR := fun r g st => match st with
  | .Assign [.Tuple ts k p] (.Tuple vs k2 p2) _ => if vs.all (foldedForSure 8) = true then match gOf g 6 (.Tuple ts k p), fOf r g (.Tuple vs k2 p2) with
    | some (_, gg), some x => some (sAsg gg x)
    | _, _ => none else none
  | _ => none
theorem sTupC_ok : SrOk sTupC := by
  intro r R X g E st c ok hp h
  unfold sTupC at h
  split at h
  · split at h
    · rename_i hn
      split at h
      · rename_i sl gg x h1 h2
        cases h
        exact rs_asg (fOf_ok R ok h2) (gOf_ok (p := (sl, gg)) ok h1) (by unfold swapsWithSole; exact noComp_sw rfl _ _) (stores_const hn) rfl
      · cases h
    · cases h
  · cases h
/-! ### C(e, ..), C a class of errors, held -/
section
variable {X : Cx} {g : Sg} {E : EX} {x : Str} {p pos : Pos} {e : Expr} {es : List Expr} {fo : Option Str} {cl : CL} {n : Nat}
theorem make_imp {C : Addr} {t : TA} (hc : ClsAt X.K x C) {σ : L2.St} {H : Hp} {Q' : VK} (h : rdV X.K E (cMakeX x fo cl) σ H Q') (ht : t = rdL X.K E n cl) : tMkX C fo t σ H fun cls d H' => ∀ a, H' a = none → Q' (.ref a) (upd H' a (xhV a cls d)) := by
  subst ht
  obtain ⟨F, ρ, Q, re, h, k⟩ := h
  refine ⟨F, ρ, _, re, h, fun vs H' F' ds gr rl hn q => ?_⟩
  have re' := re.grow gr
  cases fo with
  | none =>
    cases ds with
    | cons d ds => exact q.elim
    | nil =>
      cases rl
      intro a na
      have g2 := Grow.new re'.fh na (xhV a (.ref C) none)
      exact k _ _ _ (.exn x [], false) (gr.trans g2) (Val.of (.exn ⟨C, hc, .inr ⟨upd_same, rfl⟩⟩ .nil)) q
  | some f =>
    cases ds with
    | nil => exact q.elim
    | cons d ds =>
      cases ds with
      | cons d2 ds => exact q.elim
      | nil =>
        obtain ⟨v, rfl, r⟩ : ∃ v, vs = [v] ∧ Rep X.K F' v d := by
          cases rl with | cons r t => cases t; exact ⟨_, rfl, r⟩
        intro dx hd a na
        have g2 := Grow.new re'.fh hd (.xd [(f, v)])
        have re2 := re'.grow g2
        have g3 := Grow.new re2.fh na (xhV a (.ref C) (some dx))
        have hne : dx ≠ a := fun z => by rw [← z, upd_same] at na; cases na
        exact k _ _ _ (.exn x [(f, d)], false) ((gr.trans g2).trans g3) (Val.of (.exn ⟨C, hc, .inl ⟨dx, upd_same, by rw [upd_ne hne, upd_same]⟩⟩ (.cons ((r.mono g2.f).mono g3.f) .nil))) q
theorem re_makeX (ok : SgOk X g E) (hg : Gl X x) (hdb : (x == ("__debug__" : Str)) = false) (el : g.gl.lookup x = some (.xc fo)) (hl : PA X (e :: es) (rdL X.K E n cl)) (hs : starEach (e :: es) X.env = (false, eval e X.env) :: starEach es X.env) (hpl : (backTo pos (starEach es X.env)).any (·.1) = false) :
    PE X (.Call (.Name x p) (e :: es) [] pos) (rdV X.K E (cMakeX x fo cl)) := by
  obtain ⟨C, fI, fd, k, hc, hm, M, _, _, hr⟩ := ok.gl _ _ el
  refine ⟨fun pins s σ H Q' I h => ?_⟩
  have t := make_imp (n := n) (Q' := Q') hc h rfl
  exact wpAny_mono (pmk_x (t := rdL X.K E n cl) M hr ok.gd hg hm hl hdb hs hpl pins s σ H _ I t) (fun u s' q => mk_held q fun cls d H' a w na => w a na) fun _ _ z => z
theorem re_makeX0 (ok : SgOk X g E) (hg : Gl X x) (hdb : (x == ("__debug__" : Str)) = false) (el : g.gl.lookup x = some (.xc fo)) : PE X (.Call (.Name x p) [] [] pos) (rdV X.K E (cMakeX x fo cNil)) := by
  obtain ⟨C, fI, fd, k, hc, hm, M, _, _, hr⟩ := ok.gl _ _ el
  refine ⟨fun pins s σ H Q' I h => ?_⟩
  obtain ⟨F, ρ, Q, re, h, kq⟩ := h
  clear el
  cases fo with
  | some f => exact (show False from h).elim
  | none =>
    have h : Q (.exn x [], false) := h
    refine wpAny_mono (pmk_x0 M hr ok.gd hg hm hdb pins s σ H (fun cls d H' => cls = .ref C ∧ d = none ∧ H' = H) I ⟨rfl, rfl, rfl⟩) (fun u s' q => mk_held q fun cls d H' a w na => ?_) fun _ _ z => z
    obtain ⟨rfl, rfl, rfl⟩ := w
    exact kq _ _ _ (.exn x [], false) (Grow.new re.fh na _) (Val.of (.exn ⟨C, hc, .inr ⟨upd_same, rfl⟩⟩ .nil)) h
end
def vMakeX : VR := fun r g e => match e with
  | .Call (.Name x _) es [] _ => if globB g x = true then match g.gl.lookup x, lOf r g es with
    | some (.xc fo), some l => some (cMakeX x fo l)
    | _, _ => none else none
  | _ => none
theorem vMakeX_ok : VrOk vMakeX := by
  intro r R X g E e c ok h
  unfold vMakeX at h
  split at h
  · rename_i x p es pos
    split at h
    · rename_i hg
      obtain ⟨q1, q2⟩ := globB_is ok hg
      split at h
      · rename_i fo l el hl
        cases h
        cases es with
        | nil =>
          cases hl
          exact re_makeX0 ok q1 q2 el
        | cons e es =>
          obtain ⟨h1, h2⟩ := lOf_ok R ok hl
          rw [List.all_cons, Bool.and_eq_true] at h2
          exact re_makeX ok q1 q2 el h1 (plain_star h2.1) (plains_pl h2.2)
      · cases h
    · cases h
  · cases h
/-- .. with all that stands above -/
def withY (R : Rules) : Rules where
  v := vMakeX :: vMethB :: (withX R).v
  i := R.i
  s := sTupC :: (withX R).s
  t := R.t
theorem withY_ok {R : Rules} (O : RulesOk R) : RulesOk (withY R) where
  v := fun f hf => by
    simp only [withY, List.mem_cons] at hf
    rcases hf with rfl | rfl | hf
    · exact @vMakeX_ok
    · exact @vMethB_ok
    · exact (withX_ok O).v f hf
  i := O.i
  s := fun f hf => by
    simp only [withY, List.mem_cons] at hf
    rcases hf with rfl | hf
    · exact @sTupC_ok
    · exact (withX_ok O).s f hf
  t := O.t
end DL
/-! comprehensions out of which an error leaves -/
namespace L2
open PySem PySem.Spec PyProof.Rows
theorem noteFrame_frame {env env' : PySem.Env} (h : env'.frame = env.frame) (e : Value) : noteFrame e env' = noteFrame e env := by
  unfold noteFrame PySem.frameOf
  rw [h]
theorem passOn_frame {α : Type} {w : String} {env env' : PySem.Env} (h : env'.frame = env.frame) (e : Value) : (passOn w e env' : Sem α) = passOn w e env := by
  unfold PySem.passOn
  rw [h]
section
variable {M : Model} {A : Around} {E : Value → Shared → Prop} {env : PySem.Env} {outer : List PySem.Env} {L e : Addr} {base : Heap} {Z : Obj → Prop} {s : Shared}
/-- the frame is noted, whatever flight stands -/
theorem looks_anyZ {fl : Value} {Q : Unit → Shared → Prop} (hZ : HandSPX.Steady Z) (hfr : A.frames = some (env :: outer)) (hf : env.frame = some L) (hkb : base.StaysIn s.heap) (hen : base.get? e = none) (hl : s.heap.FunFrames base (env :: outer)) (ht : HandSPX.TracedZ s.heap base e Z fl)
    (hQ : ∀ h', HandSPX.HeldZ base (env :: outer) e Z L h' → s.heap.UpToSlots h' → Q () { s with heap := h' }) : wpAny M A (noteFrame (.ref e) env) Q E s := by
  by_cases hfl : (fl == rawInt L) = true
  · rw [eq_of_beq hfl] at ht
    exact HandSPX.againZ hf ht (hQ s.heap ⟨hkb, hen, hl, ht⟩ (Heap.UpToSlots.refl _))
  · obtain ⟨oe, vs, T, oT, ts, he, hz, hd, h1, hnT, hTe, hT, hdT, h3⟩ := ht
    unfold noteFrame
    simp only [hf]
    refine wpAny_bind (wpAny_field he hd h1 ?_)
    rw [if_pos (show (Value.ref T != Value.none) = true from by simp)]
    refine wpAny_bind (wpAny_field hT hdT h3 ?_)
    rw [if_neg hfl]
    refine wpAny_bind (wpAny_setField hT hdT (Array.getElem?_eq_some_iff.mp h3).1 ?_)
    have other : ∀ b, b ≠ T → (s.heap.update T (Obj.mapFields (·.setIfInBounds 3 Value.none))).get? b = s.heap.get? b := fun b hb => Heap.get?_update_other _ _ (Ne.symm hb)
    have noRecord : ∀ b o, s.heap.get? b = some o → (∀ vs, o.data ≠ .fields vs) → b ≠ T := fun b o hb hnf q => by
      rw [q, hT] at hb; injection hb with hb; subst hb; exact hnf ts hdT
    refine HandSPX.wpAny_entryZ hZ hfr (hl.of_keeps fun b o hb hnf => ⟨o, (other b (noRecord b o hb hnf)).trans hb, rfl⟩) hf ((other e (Ne.symm hTe)).trans he)
      (fun b o hbo => (other b fun q => by rw [q, hnT] at hbo; cases hbo).trans (hkb b o hbo)) hen hd (Array.getElem?_eq_some_iff.mp h1).1 hz fun h' hN => ?_
    obtain ⟨x1, x2, x3, x4⟩ := hN
    exact hQ h' ⟨x1, hen, x2, x3⟩ fun b o hb hnf => x4 b o ((other b (noRecord b o hb hnf)).trans hb) hnf
/-- noted by the frame, from any sky -/
theorem Sky.note {a : Addr} {L' : Addr} {Q : Unit → Shared → Prop} (hZ : HandSPX.Steady Z) (hfr : A.frames = some (env :: outer)) (hf : env.frame = some L)
    (x : Sky base (env :: outer) a Z L' s.heap) (hQ : ∀ h', HandSPX.HeldZ base (env :: outer) a Z L h' → s.heap.UpToSlots h' → Q () { s with heap := h' }) : wpAny M A (noteFrame (.ref a) env) Q E s := by
  rcases x with ⟨hB, hn, hl, oe, vs, he, hz, hd, h1⟩ | fl | hh
  · exact HandSPX.look_newZ hZ hfr hl hf he hB hn hd h1 hz hQ
  · exact looks_anyZ hZ hfr hf fl.1 fl.2.1 fl.2.2.1 fl.2.2.2 hQ
  · exact looks_anyZ hZ hfr hf hh.1 hh.2.1 hh.2.2.1 hh.2.2.2 hQ
end
theorem funFrames_at {h h' base base' : Heap} : ∀ {l : List PySem.Env}, h.FunFrames base l → (∀ L ∈ frs l, ∀ o, h.get? L = some o → h'.get? L = some o) → (∀ L ∈ frs l, base'.get? L = none) → h'.FunFrames base' l
  | [], _, _, _ => trivial
  | env :: l, h, hk, hn => by
    obtain ⟨hk1, ⟨L, o, hf, _, ho, hd⟩, hr⟩ := h
    have hm : L ∈ frs (env :: l) := List.mem_filterMap.mpr ⟨env, List.mem_cons_self, hf⟩
    have sub : ∀ b ∈ frs l, b ∈ frs (env :: l) := fun b hb => by
      obtain ⟨e, he, q⟩ := List.mem_filterMap.mp hb
      exact List.mem_filterMap.mpr ⟨e, List.mem_cons_of_mem _ he, q⟩
    exact ⟨hk1, ⟨L, o, hf, hn L hm, hk L hm o ho, hd⟩, funFrames_at hr (fun b hb => hk b (sub b hb)) fun b hb => hn b (sub b hb)⟩
section
variable {X : Cx} {pins : List (Addr × Obj)} {σ : St} {H : Hp} {s3 : Shared}
/-- an error leaves the block: its names are let go, and it is in the def's air -/
theorem blk_fails {scope : Scope} {ce : PySem.Env} {fp : List Addr} {Wx : XK} (hs : X.stack = X.env :: X.outer) (hf : X.env.frame = some X.env.locals) (tk : Takes X (fun cls d _ H => Wx cls d H))
    (I3 : Inv X pins σ H s3) (f3 : ∀ b ∈ fp, FpOk X pins H b ∧ b < s3.heap.objs.size) (hce : ce.frame = X.env.frame) (hcL : ce.locals = s3.heap.objs.size) {u : Value} {s' : Shared}
    (x : XE (X.blk s3 H scope ce fp) (fun cls d _ H => Wx cls d H) u s') : notedBy (model X.prog X.w) X.A ce (CompFails (model X.prog X.w) X.A X.xe ce) u s' := by
  obtain ⟨a, B, sI, pinsI, σI, H', cls, d, rfl, I, nb, up, sky, na, os, ag, w⟩ := x
  have nb : ∀ b o, sI.heap.get? b = some o → b ∉ frs X.stack → B.get? b = some o := nb
  have hfr : X.A.frames = some (X.env :: X.outer) := by rw [I3.ok.frames, hs]
  have sky : Sky B (X.env :: X.outer) a (Zc cls d) ce.locals s'.heap := by rw [← hs]; exact sky
  have below : ∀ L ∈ frs X.stack, L < s3.heap.objs.size := fun L hL => by
    obtain ⟨_, o, ho, _⟩ := I3.stack.mem hL
    exact Heap.lt_size ho
  have Cf : ce.locals ∉ frs X.stack := fun hm => by
    have := below _ hm
    rw [hcL] at this; exact absurd this (Nat.lt_irrefl _)
  obtain ⟨m, ⟨oC, es, ep, hoC, hrC⟩, _⟩ := I.loc
  have hoC : sI.heap.get? ce.locals = some oC := hoC
  have BC : B.get? ce.locals = some oC := nb _ _ hoC Cf
  show wpAny (model X.prog X.w) X.A (noteFrame (.ref a) ce) _ _ s'
  rw [noteFrame_frame hce]
  refine Sky.note Zc.steady hfr hf sky fun h1 held1 up1 => ⟨m, ⟨oC, es, ep, held1.1 _ _ BC, hrC⟩, fun h' m' _ sb => ?_⟩
  rw [passOn_frame hce]
  -- the ground, its block let go
  obtain ⟨B', b1, b2⟩ := restrict h' fun b => (B.get? b).isSome
  have bne : ∀ b, b ≠ ce.locals → B'.get? b = B.get? b := fun b hb => by
    cases q : B.get? b with
    | none => rw [b2 b (by rw [q]; rfl)]
    | some o => rw [b1 b (by rw [q]; rfl), sb.2 b hb]; exact held1.1 b o q
  have aC : a ≠ ce.locals := fun z => by
    have k := held1.2.1
    rw [z, BC] at k; cases k
  have held2 : HandSPX.HeldZ B' (X.env :: X.outer) a (Zc cls d) X.env.locals h' := by
    obtain ⟨k1, k2, k3, oe, vs, T, oT, ts, he, hz, hd, q1, hnT, hTe, hT, hdT, q3⟩ := id held1
    have TC : T ≠ ce.locals := fun z => by rw [z, BC] at hnT; cases hnT
    refine ⟨fun b o e => ?_, by rw [bne a aC]; exact k2, funFrames_at k3 (fun L hL o e => ?_) fun L hL => ?_, oe, vs, T, oT, ts, (sb.2 a aC).trans he, hz, hd, q1, by rw [bne T TC]; exact hnT, hTe, (sb.2 T TC).trans hT, hdT, q3⟩
    · cases q : B.get? b with
      | none => rw [b2 b (by rw [q]; rfl)] at e; cases e
      | some o' => rw [b1 b (by rw [q]; rfl)] at e; exact e
    · exact (sb.2 L fun z => Cf (by rw [← z, hs]; exact hL)).trans e
    · rw [bne L fun z => Cf (by rw [← z, hs]; exact hL)]
      exact (k3.mem hL).1
  obtain ⟨k1, k2, k3, oe, vs, T, oT, ts, he, hz, hd, q1, hnT, hTe, hT, hdT, q3⟩ := id held2
  unfold PySem.passOn
  refine wpAny_bind (wpAny_field he hd q1 ?_)
  rw [if_neg (show ¬ ((Value.ref T == Value.none) = true) from by simp)]
  have fin : wpAny (model X.prog X.w) X.A (setFlight (.ref a) X.env.frame) (fun _ s4 => wpAny (model X.prog X.w) X.A (throw (.ref a) : Sem Value) (fun _ _ => False) X.xe s4) X.xe { s' with heap := h' } := by
    rw [hf]
    refine HandSPX.setFlight_onZ held2 fun h2 held3 up2 => wpAny_throw (tk _ _ ?_)
    obtain ⟨G, g1, g2⟩ := restrict h2 fun b => (B'.get? b).isSome || decide (b ∈ frs X.stack)
    have st : B'.StaysIn h2 := held3.1
    have gB : ∀ b o, B'.get? b = some o → G.get? b = some o := fun b o e => by
      rw [g1 b (by simp [e])]
      exact st b o e
    have gF : ∀ b, b ∈ frs X.stack → G.get? b = h2.get? b := fun b hb => g1 b (by simp [hb])
    have og : ∀ b o, G.get? b = some o → h2.get? b = some o ∧ ((B'.get? b).isSome = true ∨ b ∈ frs X.stack) := fun b o e => by
      cases q : ((B'.get? b).isSome || decide (b ∈ frs X.stack)) with
      | false => rw [g2 b q] at e; cases e
      | true =>
        rw [g1 b q] at e
        exact ⟨e, by simpa [Bool.or_eq_true] using q⟩
    have Cn : ∀ b o, s3.heap.get? b = some o → b ≠ ce.locals := fun b o e z => by
      have := Heap.lt_size e
      rw [z, hcL] at this; exact absurd this (Nat.lt_irrefl _)
    have u0 : Un (frs X.stack) fp H H' s3.heap sI.heap := I.base
    have slot : ∀ b o, s3.heap.get? b = some o → H b = none → b ∈ frs X.stack → b ∉ fp → ∃ sl, G.get? b = some { o with slots := sl } := fun b o e n hb hx => by
      obtain ⟨_, o₀, e₀, hnf⟩ := I3.stack.mem hb
      rw [e] at e₀; cases e₀
      obtain ⟨sl, e1⟩ := u0.slot b o e n hb hx
      obtain ⟨sl1, e2⟩ := up b _ e1 hnf
      obtain ⟨sl2, e3⟩ := up1 b _ e2 hnf
      have e4 := (sb.2 b (Cn b o e)).trans e3
      obtain ⟨sl3, e5⟩ := up2 b _ e4 hnf
      exact ⟨sl3, by rw [gF b hb]; exact e5⟩
    have hokB : HOk X.prog X.w H' B := Inv.inGround (X := X.blk s3 H scope ce fp) I nb
    have free : H' ce.locals = none := I.free
    have hokG : HOk X.prog X.w H' G := fun b o q => (hokB b o q).stay (fun c u hc r => gB c u (by
      rw [bne c fun z => ?_]
      · exact r
      · rcases hc with hc | hc
        · rw [hc] at z; rw [z, free] at q; cases q
        · rw [z, free] at hc; cases hc)) (fun _ r => r) fun _ _ r => r
    refine ⟨a, B', { s3 with heap := G, gens := s'.gens, drawn := s'.drawn, toks := s'.toks }, pins, σ, H', cls, d, rfl, ?_, fun b o e hb => ?_, Heap.UpToSlots.of_keeps fun b o e => (og b o e).1, .inr (.inr (by rw [hs]; exact held3)), na, os.trans I.os, ag, w⟩
    · refine I3.call (ch := fp) ⟨fun b o e n hb hx => gB b o (by rw [bne b (Cn b o e)]; exact nb b o (u0.keep b o e n hb hx) hb), fun b o e n hb hx => slot b o e n hb hx, fun b o e n hx => u0.free b o e n hx, fun b o e hx => ?_, u0.tups, u0.frzs, u0.tbls⟩ hokG ag
        fun b hb => ⟨(f3 b hb).1.2.2.2.1, (f3 b hb).1.2.1, (f3 b hb).1.2.2.2.2.1, (f3 b hb).1.2.2.2.2.2⟩
      by_cases hb : b ∈ frs X.stack
      · obtain ⟨sl, q⟩ := slot b o e (I3.stkFree b hb) hb hx
        exact ⟨_, q⟩
      · obtain ⟨o', q⟩ := u0.there b o e hx
        exact ⟨o', gB b o' (by rw [bne b (Cn b o e)]; exact nb b o' q hb)⟩
    · obtain ⟨e', h⟩ := og b o e
      rcases h with h | h
      · obtain ⟨o', q⟩ := Option.isSome_iff_exists.mp h
        have z := st b o' q
        rw [e'] at z; cases z
        exact q
      · exact absurd h hb
  first
    | exact wpAny_bind (wpAny_pure (wpAny_bind fin))
    | exact wpAny_bind fin
theorem XE.takesBlk {scope : Scope} {ce : PySem.Env} {fp : List Addr} {W : WX} {H : Hp} : Takes ((X.blk s3 H scope ce fp).wish (XE (X.blk s3 H scope ce fp) W)) W := fun u s' ⟨a, B, sI, pins, σ, H, cls, d, e, I, nb, up, sky, na, os, ag, w⟩ =>
  ⟨a, B, sI, pins, σ, H, cls, d, e, I.unwish, nb, up, sky, na, os, ag, w⟩
end
section
variable {X : Cx}
/-- [elt for target in iter if ..] where elt may raise (lc_core of HandS, turned: the block's errors are taken, CompFails pays for them) -/
theorem lcx_core {pins : List (Addr × Obj)} {s : Shared} {σ : St} {H : Hp} {Q : VK} {elt tg iter : Expr} {ifs : List Expr} {scope : Scope} {own : List (Str × Nat)} {pos pos' : Pos} {wi : TI} {g : TG} {tt : TT} {te : TE} {use : Option (Value → Sem Unit)} {Qf : Value → Shared → Prop} {Wx : XK}
    (hstk : X.stack = X.env :: X.outer) (hf : X.env.frame = some X.env.locals) (tk : Takes X (fun cls d _ H => Wx cls d H)) (hc : X.calm = true) (hN : X.N.Nodup) (I : Inv X pins σ H s) (hi : PI X tg iter wi) (ok : BlkOk X.N X.env.scope scope own)
    (hg : ∀ (s : Shared) (H : Hp) (C : Addr) (cl : List (Str × Addr)) (fp : List Addr), PG (X.blk s H scope (compEnvC scope cl C X.env) fp) tg g) (ht : ∀ (s : Shared) (H : Hp) (C : Addr) (cl : List (Str × Addr)) (fp : List Addr), PTs (X.blk s H scope (compEnvC scope cl C X.env) fp) ifs tt)
    (he : ∀ (s : Shared) (H : Hp) (C : Addr) (cl : List (Str × Addr)) (fp : List Addr) (xe : Value → Shared → Prop), Takes ((X.blk s H scope (compEnvC scope cl C X.env) fp).wish xe) (fun cls d _ H => Wx cls d H) → PE ((X.blk s H scope (compEnvC scope cl C X.env) fp).wish xe) elt te) (hs : ∀ x, foldedSetIterable iter X.env x = pure x)
    (h : tLc wi g tt te (own.map (·.2)) σ H Q)
    (hRR : ∀ D (ce : PySem.Env) s' m H', Inv X pins σ H' s' → Q (.ref D) H' → s'.heap.Ns ce.locals m → FpOk X pins H' ce.locals → compEnds (model X.prog X.w) X.A X.xe use Qf (.ref D) ce (.ok .next) s') :
    wpAny (model X.prog X.w) X.A (comprehension (.ListComp elt [⟨tg, iter, ifs, 0⟩] scope pos) scope X.env pos' (newList []) false (eval iter X.env) use) Qf X.xe s := by
  have hfree : ∀ y ∈ scope.names, y.2 = .free → ∃ c, X.env.cells.lookup y.1 = some c := fun y hy e => by
    rcases ok.free y hy e with k | k
    · exact I.ok.has _ (.inl k)
    · exact I.ok.has _ (.inr k)
  refine comprehension_at (use := use) rfl hs (closure_ok hfree) ok.kind (fun y hy e => by rw [ok.uniq y hy, e])
    (thn (hi.run pins s σ H _ I h) fun xv s1 hx => thn hx fun itv s2 h2 => ?_)
  obtain ⟨it, fp, tn, J, H2, e, I2, T, st2, f2, q⟩ := h2
  subst e
  refine wpAny_newObj_type (newEnv_comp ?_) (by show 0 ≤ sizeLine; decide)
  generalize hD : s2.heap.objs.size = D
  have hDn : H2 D = none := I2.hok.fresh (Nat.le_of_eq hD)
  obtain ⟨W, ⟨m0, w0⟩, turn⟩ := q D hDn
  -- the new list
  generalize hs3 : ({ s2 with heap := s2.heap.push { cls := .type "list", data := .seq ([] : List Value).toArray } } : Shared) = s3
  have I3 : Inv X pins σ (upd H2 D (.lst [])) s3 := by
    rw [← hs3]
    refine I2.laid (t' := s2.toks) (fun b o e => Heap.get?_push_of_some _ e) (Nat.le_of_eq hD) ⟨Nat.zero_le _, [], 0, .nil, ?_⟩
    rw [← hD]
    exact Heap.get?_push_size _ rfl
  have h3 : s3.heap = s2.heap.push { cls := .type "list", data := .seq ([] : List Value).toArray } := by rw [← hs3]
  have sz : ∀ b ∈ fp, b < s2.heap.objs.size := fun b hb => by
    obtain ⟨o, e, _⟩ := T.obj _ _ st2 b hb
    exact Heap.lt_size e
  have f3 : ∀ b ∈ fp, FpOk X pins (upd H2 D (.lst [])) b ∧ b < s3.heap.objs.size := fun b hb => by
    have hlt := sz b hb
    refine ⟨⟨?_, (f2 b hb).2⟩, by rw [h3, Heap.size_push]; exact Nat.lt_succ_of_lt hlt⟩
    rw [upd_ne (by rw [← hD]; exact Nat.ne_of_lt hlt)]
    exact (f2 b hb).1
  have st3 : tn 0 s3.heap := T.keep _ _ _ st2 fun b _ o e => by rw [h3]; exact Heap.get?_push_of_some _ e
  have I4 := block_start I3 ok hN f3
  have pg := hg s3 (upd H2 D (.lst [])) s3.heap.objs.size (cellsFrom (s3.heap.objs.size + 1) scope.names (cloFrom X.env.cells scope.names [])) fp
  have pt := ht s3 (upd H2 D (.lst [])) s3.heap.objs.size (cellsFrom (s3.heap.objs.size + 1) scope.names (cloFrom X.env.cells scope.names [])) fp
  have pe := he s3 (upd H2 D (.lst [])) s3.heap.objs.size (cellsFrom (s3.heap.objs.size + 1) scope.names (cloFrom X.env.cells scope.names [])) fp
  show codeAny _ _ (.compStart (.ListComp elt [⟨tg, iter, ifs, 0⟩] scope pos) 0 (.ref it) (.ref D) (compEnvC scope (cellsFrom (s3.heap.objs.size + 1) scope.names (cloFrom X.env.cells scope.names [])) s3.heap.objs.size X.env)) (compEnds (model X.prog X.w) X.A X.xe use Qf (.ref D) (compEnvC scope (cellsFrom (s3.heap.objs.size + 1) scope.names (cloFrom X.env.cells scope.names [])) s3.heap.objs.size X.env)) { s3 with heap := pushCells (s3.heap.push { cls := .type "dict", data := .dict #[] }) scope.names }
  have nfp : ∀ b ∈ fp, (upd H2 D (.lst [])) b = none := fun b hb => (f3 b hb).1.1
  generalize hce : compEnvC scope (cellsFrom (s3.heap.objs.size + 1) scope.names (cloFrom X.env.cells scope.names [])) s3.heap.objs.size X.env = ce at I4 pg pt pe ⊢
  have cL : ce.locals = s3.heap.objs.size := by subst hce; rfl
  have cF : ce.frame = X.env.frame := by subst hce; rfl
  generalize hH3 : upd H2 D (.lst []) = H3 at I3 I4 pg pt pe w0 nfp f3
  generalize hs4 : ({ s3 with heap := pushCells (s3.heap.push { cls := .type "dict", data := .dict #[] }) scope.names } : Shared) = s4 at I4 ⊢
  have st4 : tn 0 s4.heap := T.keep _ _ _ st3 fun b _ o e => by rw [← hs4]; exact pushCells_keeps _ _ _ _ (Heap.get?_push_of_some _ e)
  have stat : ∀ {σ' : St} {H' : Hp} {s' : Shared}, Inv (X.blk s3 H3 scope ce fp) [] σ' H' s' → (∀ b ∈ fp, H' b = none) → ∀ b ∈ fp, FpOk (X.blk s3 H3 scope ce fp) [] H' b := fun {σ' H' s'} I' hn b hb =>
    ⟨hn b hb, (I'.ok.exf b hb).1, I'.ok.exfs b hb, .inl hb, fun x c e => (I'.ok.exf b hb).2 x c e, fun p hp => absurd (show p ∈ ([] : List (Addr × Obj)) ++ [] from hp) (by simp)⟩
  have loop : codeAny (model X.prog X.w) X.A (.compLoop (.ListComp elt [⟨tg, iter, ifs, 0⟩] scope pos) 0 (.ref it) (.ref D) ce) (compEnds (model X.prog X.w) X.A X.xe use Qf (.ref D) ce) s4 := by
    refine compLoop_any (fun n s' => ∃ i H', Inv (X.blk s3 H3 scope ce fp) [] (wipe σ (own.map (·.2))) H' s' ∧ tn i s'.heap ∧ (∀ b ∈ fp, H' b = none) ∧ W i n H') ?_ m0 ⟨0, H3, I4, st4, nfp, w0⟩
    rintro n s5 ⟨i, H5, I5, st5, n5, w5⟩
    rcases turn i n H5 w5 with ⟨stop, qq⟩ | ⟨go, Nx, hNx, step⟩
    · have td := T.done (X.blk s3 H3 scope ce fp) rfl rfl rfl hc i [] s5 _ H5 (fun _ _ => False) I5 (stat I5 n5) st5 stop
      refine thnF td fun r s6 ⟨hr, I6⟩ => ?_
      subst hr
      -- back in the def's context
      have I7 : Inv X pins σ H5 s6 := I3.call' (ch := fp) I6.os I6.base I6.hok I6.bare fun b hb => ⟨(f3 b hb).1.2.2.2.1, (f3 b hb).1.2.1, (f3 b hb).1.2.2.2.2.1, (f3 b hb).1.2.2.2.2.2⟩
      have nC : H5 s3.heap.objs.size = none := by
        have z : H5 ce.locals = none := I6.free
        rw [cL] at z
        exact z
      obtain ⟨m, hn, _⟩ := I6.loc
      have hn : s6.heap.Ns ce.locals m := hn
      exact hRR D ce s6 m H5 I7 qq hn (by rw [cL]; exact I3.fpOk (Nat.le_refl _) nC)
    · have ti := T.item (X.blk s3 H3 scope ce fp) rfl rfl rfl hc i [] s5 _ H5 (fun _ _ => False) I5 (stat I5 n5) st5 go
      refine thnF ti fun r s6 ⟨u, hr, h6⟩ => ?_
      subst hr
      refine thnF h6 fun _ s7 ⟨x, H7, I7, r7, y7, st7, n7⟩ => ?_
      have I7' := I7.pinned (stat I7 n7) (T.obj _ _ st7)
      refine thnF (pg.run _ s7 _ H7 x u _ I7' r7 (step x H7 y7)) fun _ s8 ⟨σ8, H8, I8, hw8, q8⟩ => ?_
      refine thnF (pt.run _ s8 σ8 H8 _ I8 q8) fun b s9 ⟨H9, I9, q9⟩ => ?_
      -- the turn's end
      have fin : ∀ {s' : Shared} {H' : Hp}, Inv (X.blk s3 H3 scope ce fp) ([] ++ pinsAt fp s7.heap) σ8 H' s' → Nx H' → ∃ m, m < n ∧ ∃ i H', Inv (X.blk s3 H3 scope ce fp) [] (wipe σ (own.map (·.2))) H' s' ∧ tn i s'.heap ∧ (∀ b ∈ fp, H' b = none) ∧ W i m H' := fun {s' H'} I' nx => by
        obtain ⟨m', hm, w'⟩ := hNx H' nx
        have pin' : ∀ b ∈ fp, ∀ o, s7.heap.get? b = some o → s'.heap.get? b = some o ∧ H' b = none := fun b hb o e =>
          let z := I'.pin (b, o) (List.mem_append_right _ (List.mem_append_right _ (mem_pinsAt hb e)))
          ⟨z.1, z.2.1⟩
        have hl : (wipe σ (own.map (·.2))).length = σ8.length := by rw [← hw8, wipe_length]
        refine ⟨m', hm, i + 1, H', (I'.unpinned (pins := [])).weak hl (fun j v e => ?_), T.keep _ _ _ st7 fun b hb o e => (pin' b hb o e).1, fun b hb => ?_, w'⟩
        · rw [← hw8] at e
          exact (wipe_some e).1
        · obtain ⟨o, e, _⟩ := T.obj _ _ st7 b hb
          exact (pin' b hb o e).2
      cases b with
      | false =>
        simp only [Bool.false_eq_true, if_false] at q9 ⊢
        exact fin I9 q9
      | true =>
        simp only [if_true] at q9 ⊢
        refine wpAny_mono ((pe _ (XE.takesBlk (X := X))).run _ s9 σ8 H9 _ (I9.wish _) q9) (fun z s10 ⟨yv, H10, I10, r10, acc, hD10, hz10, nx⟩ => ?_) fun e s' x => by
          have k := blk_fails hstk hf tk I3 f3 cF cL x
          cases use <;> exact k
        exact app_ok (X := X.blk s3 H3 scope ce fp) I10.unwish hD10 hz10 r10 fun s11 I11 => fin I11 nx
  exact codeAny_compStart_list loop (T.self X.A 0 _ _ _ st4 loop)
theorem pe_lcx {elt tg iter : Expr} {ifs : List Expr} {scope : Scope} {own : List (Str × Nat)} {pos : Pos} {wi : TI} {g : TG} {tt : TT} {te : TE} {Wx : XK} (hstk : X.stack = X.env :: X.outer) (hf : X.env.frame = some X.env.locals) (tk : Takes X (fun cls d _ H => Wx cls d H)) (hc : X.calm = true) (hN : X.N.Nodup) (hi : PI X tg iter wi) (ok : BlkOk X.N X.env.scope scope own)
    (hg : ∀ (s : Shared) (H : Hp) (C : Addr) (cl : List (Str × Addr)) (fp : List Addr), PG (X.blk s H scope (compEnvC scope cl C X.env) fp) tg g) (ht : ∀ (s : Shared) (H : Hp) (C : Addr) (cl : List (Str × Addr)) (fp : List Addr), PTs (X.blk s H scope (compEnvC scope cl C X.env) fp) ifs tt)
    (he : ∀ (s : Shared) (H : Hp) (C : Addr) (cl : List (Str × Addr)) (fp : List Addr) (xe : Value → Shared → Prop), Takes ((X.blk s H scope (compEnvC scope cl C X.env) fp).wish xe) (fun cls d _ H => Wx cls d H) → PE ((X.blk s H scope (compEnvC scope cl C X.env) fp).wish xe) elt te)
    (hs : ∀ x, foldedSetIterable iter X.env x = pure x := by intro _; rfl) {σ : St} {H : Hp} {Q : VK} {pins : List (Addr × Obj)} {s : Shared} (I : Inv X pins σ H s) (h : tLc wi g tt te (own.map (·.2)) σ H Q) :
    wpAny (model X.prog X.w) X.A (eval (.ListComp elt [⟨tg, iter, ifs, 0⟩] scope pos) X.env) (EP X pins σ Q) X.xe s := by
  rw [eval_ListComp]
  refine lcx_core hstk hf tk hc hN I hi ok hg ht he hs h fun D ce s' m H' I' q hn f => ⟨m, hn, fun h'' sb => ?_⟩
  obtain ⟨f0, f1, f2, f3, f4, f5⟩ := f
  exact ⟨.ref D, H', I'.turned (t' := s'.toks) (fun b o hb e => (sb.2 b hb).trans e) f0 f1 f3 f4 f5, rfl, q⟩
end
end L2
/-! [e for x in xs if ..] where e may raise -/
namespace L2
open PySem PySem.Spec PyProof.Rows
section
variable {X : Cx}
theorem run_setLcx {i : Nat} {y : Str} {py : Pos} {elt tg iter : Expr} {ifs : List Expr} {scope : Scope} {own : List (Str × Nat)} {pos spos : Pos} {wi : TI} {g : TG} {tt : TT} {te : TE} {Wx : XK} (hstk : X.stack = X.env :: X.outer) (hf : X.env.frame = some X.env.locals) (tk : Takes X (fun cls d _ H => Wx cls d H))
    (hc : X.calm = true) (hN : X.N.Nodup) (hy : X.N[i]? = some y) (hyl : X.env.scope.names.lookup y = some .local)
    (hsw : swapsWith (.ListComp elt [⟨tg, iter, ifs, 0⟩] scope pos) (some (.Name y py)) spos.line X.env = pure true) (hi : PI X tg iter wi) (ok : BlkOk X.N X.env.scope scope own)
    (hg : ∀ (s : Shared) (H : Hp) (C : Addr) (cl : List (Str × Addr)) (fp : List Addr), PG (X.blk s H scope (compEnvC scope cl C X.env) fp) tg g) (ht : ∀ (s : Shared) (H : Hp) (C : Addr) (cl : List (Str × Addr)) (fp : List Addr), PTs (X.blk s H scope (compEnvC scope cl C X.env) fp) ifs tt)
    (he : ∀ (s : Shared) (H : Hp) (C : Addr) (cl : List (Str × Addr)) (fp : List Addr) (xe : Value → Shared → Prop), Takes ((X.blk s H scope (compEnvC scope cl C X.env) fp).wish xe) (fun cls d _ H => Wx cls d H) → PE ((X.blk s H scope (compEnvC scope cl C X.env) fp).wish xe) elt te)
    (hs : ∀ x, foldedSetIterable iter X.env x = pure x) {pins : List (Addr × Obj)} {s : Shared} {σ : St} {H : Hp} {D : Ends} (I : Inv X pins σ H s) (h : tAsg (tLc wi g tt te (own.map (·.2))) (gName i) D σ H) :
    wpAny (model X.prog X.w) X.A (exec (.Assign [.Name y py] (.ListComp elt [⟨tg, iter, ifs, 0⟩] scope pos) spos) X.env) (SP X pins D) X.xe s := by
  rw [exec_Assign_Name_used _ _ _ _ hsw]
  refine wpAny_bind (wpAny_standAt (wpAny_bind ?_))
  show wpAny _ X.A (do let _ ← comprehension (.ListComp elt [⟨tg, iter, ifs, 0⟩] scope pos) scope X.env (firstIterPos [⟨tg, iter, ifs, 0⟩] pos) (newList []) false (eval iter X.env) (some (assign (.Name y py) X.env))) _ _ s
  have h : tLc wi g tt te (own.map (·.2)) σ H (fun x H1 => gName i x σ H1 D.nx) := h
  refine wpAny_bind (thn (lcx_core (Qf := fun _ s' => SP X pins D .next s') hstk hf tk hc hN I hi ok hg ht he hs h fun L ce s' m H' I' q hn f => ?_) fun _ s' hq => wpAny_pure (wpAny_pure hq))
  show wpAny _ _ (assign (.Name y py) X.env (.ref L)) _ _ _
  refine wpAny_assign_Name (store_ok2 (v := V.ref L) I' hN hy (.inl hyl) rfl (fun s2 I2 ⟨a, sb, ha⟩ => ?_) (.inr hyl))
  obtain ⟨f0, f1, f2, f3, f4, f5⟩ := f
  have haC : ce.locals ≠ a := by
    rcases ha with z | z
    · rw [z]; exact f1
    · exact fun e => f4 y a z e.symm
  refine ⟨m, hn.sameBut sb haC, fun h3 sb3 => ?_⟩
  exact ⟨_, H', I2.turned (t' := s2.toks) (fun b o hb e => (sb3.2 b hb).trans e) f0 f1 f3 f4 f5, q⟩
end
end L2
namespace DL
open PySem L2 PySem.Spec PyProof.Rows
def lcXM (g : CG) (t : CT) (e : CB) (ρ : Env) : List D → M (List D)
  | [] => ret []
  | d :: ds => fun Q E => g d ρ (fun ρ' => t ρ' (fun b => if b = true then e ρ' (fun x => lcXM g t e ρ ds (fun r => Q (x :: r)) E) E else lcXM g t e ρ ds Q E) (fun _ => False)) (fun _ => False)
def cLcX (vs : List Nat) (it : CI) (g : CG) (t : CT) (e : CB) : CV := fun ρ => bnd (it ρ) fun ds Q E => ds.length ≤ sizeLine ∧ lcXM g t e (wipeE ρ vs) ds (fun r => Q (.lst r, true)) E
theorem lcX_imp {K : PySem.W.Frag} {E : EX} {ci : CI} {g : CG} {t : CT} {xe : CB} {vs : List Nat} {sl : List Nat} {σ : L2.St} {H : Hp} {Q' : VK} (hsl : ∀ i ∈ sl, i ∈ vs) (h : rdV K E (cLcX vs ci g t xe) σ H Q') :
    ∃ r0, tLc (rdI K E ci) (rdG K E.no sl g) (rdT K E.no t) (rdF K ⟨E.B, E.F0, fun x _ => E.e x r0⟩ xe) vs σ H Q' := by
  obtain ⟨F, ρ, Q, re, h, k⟩ := h
  refine ⟨ρ, F, ρ, _, re, h, fun J H1 F1 ds g1 io q => ?_⟩
  obtain ⟨hsz, q⟩ := q
  intro Dn hD
  refine ⟨fun i m H2 => m = ds.length - i ∧ i ≤ ds.length ∧ ∃ F2 acc out, Grow F1 H1 F2 H2 ∧ F2 Dn = none ∧ H2 Dn = some (.lst acc) ∧ RepL K F2 acc out ∧ out.length ≤ i ∧ lcXM g t xe (wipeE ρ vs) (ds.drop i) (fun r => Q (.lst (out ++ r), true)) (E.at ρ),
    ⟨ds.length, by simp, Nat.zero_le _, F1, [], [], Grow.own g1.fh hD _, g1.fh.free hD, upd_same, .nil, Nat.zero_le _, q⟩, ?_⟩
  rintro i m H2 ⟨rfl, hi, F2, acc, out, g2, fD, hDn, ra, ho, q2⟩
  obtain ⟨i1, i2⟩ := io F2 H2 g2.f g2.fh
  by_cases hlt : i < ds.length
  · have e : ds[i]? = some ds[i] := List.getElem?_eq_getElem hlt
    obtain ⟨go, yl⟩ := i2 i _ e
    rw [List.drop_eq_getElem_cons hlt] at q2
    refine .inr ⟨go, fun H' => ∃ F2 acc out, Grow F1 H1 F2 H' ∧ F2 Dn = none ∧ H' Dn = some (.lst acc) ∧ RepL K F2 acc out ∧ out.length ≤ i + 1 ∧ lcXM g t xe (wipeE ρ vs) (ds.drop (i + 1)) (fun r => Q (.lst (out ++ r), true)) (E.at ρ),
      fun H' ⟨F3, a3, o3, w⟩ => ⟨ds.length - (i + 1), by omega, rfl, hlt, F3, a3, o3, w⟩, fun x H3 y => ?_⟩
    obtain ⟨F3, g3, r3⟩ := yl x H3 y
    have st : ∀ {F' H' : Hp}, Grow F2 H2 F' H' → F' Dn = none ∧ H' Dn = some (.lst acc) := fun {F' H'} gg => by
      refine ⟨?_, gg.h _ _ hDn⟩
      cases z : F' Dn with
      | none => rfl
      | some u =>
        rcases gg.nw Dn u z with w | w
        · rw [fD] at w; cases w
        · rw [hDn] at w; cases w
    have re3 := (re.grow ((g1.trans g2).trans g3)).wipe vs
    refine ⟨F3, _, _, _, re3, r3, q2, fun σ4 ρ4 l4 k4 re4 q4 => ⟨?_, F3, ρ4, _, re4, q4, fun b H5 F5 g5 q5 => ?_⟩⟩
    · rw [← wipe_idem (σ := σ)]
      exact wipe_eq l4 fun j hj => k4 j fun z => hj (hsl j z)
    · have g35 := g3.trans g5
      cases b with
      | false =>
        show ∃ F2 acc out, _
        exact ⟨F5, acc, out, g2.trans g35, (st g35).1, (st g35).2, ra.mono g35.f, Nat.le_succ_of_le ho, q5⟩
      | true =>
        show rdF K ⟨E.B, E.F0, fun x _ => E.e x ρ⟩ xe σ4 H5 _
        refine ⟨F5, ρ4, _, re4.grow g5, q5, fun v H6 F6 d g6 r6 q6 => ?_⟩
        have g36 := g35.trans g6
        obtain ⟨s1, s2⟩ := st g36
        refine ⟨acc, s2, by rw [ra.length]; omega, F6, _, out ++ [d], ?_, s1, upd_same, (ra.mono g36.f).append (.cons r6 .nil), by rw [List.length_append, List.length_singleton]; omega, ?_⟩
        · have gg := g2.trans g36
          refine ⟨fun b u z => ?_, gg.f, fun b u z => ?_, gg.nw⟩
          · rw [upd_ne (ne_of_none z hD)]; exact gg.h b u z
          · rw [upd_ne (ne_of_none z s1)]; exact gg.fh b u z
        · have e2 : (fun r => Q (.lst ((out ++ [d]) ++ r), true)) = fun r => Q (.lst (out ++ (d :: r)), true) := by
            funext r; rw [List.append_assoc]; rfl
          rw [e2]
          exact q6
  · have e : i = ds.length := by omega
    subst e
    rw [List.drop_length] at q2
    have q3 : Q (.lst (out ++ []), true) := q2
    rw [List.append_nil] at q3
    exact .inl ⟨i1, k _ H2 F2 (.lst out, true) (g1.trans g2) (Val.own (g1.h.free hD) fD ⟨acc, hDn, ra⟩) q3⟩
end DL
/-! C(f = e), C a class of errors with one field -/
namespace PySem
namespace HandSPX
open PySem.W PySem.Calls PyProof.Rows Builtin Builtin.ObjectAttr
section
variable {M : Model} {A : Around} {E : Value → Shared → Prop} {hp : Heap} {g : Array GenState} {dr : Drawn} {tk : Nat} {os : OsState}
variable {nm q : Str} {C N : Addr} {bs bm bmB : List Value} {hd : Bool} {sn : List Str} {sub : List Value} {ab : Bool} {col : Option Bool} {dd : Option Addr} {k0 k1 k2 k3 k5 : Option Value} {B newId initId : String} {f : Str} {u : Value}
theorem chk_newK (F : ExcBaseFacts B newId initId bmB) (hT : ∀ Y : String, bm.contains (.type Y) = bmB.contains (.type Y)) {l : List Value} {Q : Unit → Shared → Prop}
    (hC : hp.get? C = some (excClassObj nm q C N bs bm hd sn sub ab col dd k0 k1 k2 k3 k5 newId)) (hq : Q () ⟨hp, g, dr, tk, os⟩) : wpAny M A (checkBuiltinCall newId ⟨.ref C :: l, [(f, u)]⟩) Q E ⟨hp, g, dr, tk, os⟩ := by
  have c1 : (Value.ref C :: bm).contains (.type B) = true := by rw [List.contains_cons, hT, F.hasB, Bool.or_true]
  have c2 := F.noStar
  simp only [F.newKind, checkBuiltinCall, F.newSplit, F.newRow]
  repeat (first | refine wpAny_loadPart_at hC ?_ | (refine wpAny_isSubtype_exc hC ?_; rw [c1]) | refine wpAny_staticBase_exc hC ?_ | refine wpAny_madeBy_exc hC ?_ | simp only [bne_self_eq_false, Bool.false_eq_true, if_false] | wp_step)
  exact hq
theorem chk_tcK {l : List Value} {Q : Unit → Shared → Prop} (hC : hp.get? C = some (excClassObj nm q C N bs bm hd sn sub ab col dd k0 k1 k2 k3 k5 newId))
    (hq : Q () ⟨hp, g, dr, tk, os⟩) : wpAny M A (checkBuiltinCall "type.__call__" ⟨.ref C :: l, [(f, u)]⟩) Q E ⟨hp, g, dr, tk, os⟩ := by
  have c3 := tc_sub
  have hT : (⟨hp, g, dr, tk, os⟩ : Shared).TypeIs (.ref C) "type" := ⟨_, hC, rfl⟩
  simp only [tc_kind, checkBuiltinCall, tc_split]
  repeat (any_goals (first | assumption | with_reducible refine wpAny_loadPart_at hC ?_ | with_reducible refine wpAny_onRaise ?_ | with_reducible refine wpAny_map ?_ | wp_step))
end
section
variable {prog : Program} {w : World} {A : Around} {E : Value → Shared → Prop} {R : Result → Shared → Prop} {hp : Heap} {g : Array GenState} {dr : Drawn} {tk : Nat} {os : OsState}
variable {nm q : Str} {C N : Addr} {bs bm bmB : List Value} {hd : Bool} {sn : List Str} {sub : List Value} {ab : Bool} {col : Option Bool} {dd : Option Addr} {k0 k1 k2 k3 k5 : Option Value} {B newId initId : String} {f : Str} {u : Value}
theorem newK (F : ExcBaseFacts B newId initId bmB) (hT : ∀ Y : String, bm.contains (.type Y) = bmB.contains (.type Y)) {l : List Value}
    (hC : hp.get? C = some (excClassObj nm q C N bs bm hd sn sub ab col dd k0 k1 k2 k3 k5 newId))
    (hq : R (.ok (.ret (.ref (hp.objs.size + 1)))) ⟨(hp.push { cls := .type "tuple", data := .seq l.toArray }).push
      { cls := .ref C, data := .fields #[.ref hp.objs.size, .none, .none, .none, .bool false, .none] }, g, dr, tk, os⟩) (hl : l.length ≤ sizeLine) :
    codeAny (model prog w) A (.builtin newId ⟨.ref C :: l, [(f, u)]⟩) R ⟨hp, g, dr, tk, os⟩ := by
  have ends := F.ends
  have c1 : (Value.ref C :: bm).contains (.type B) = true := by rw [List.contains_cons, hT, F.hasB, Bool.or_true]
  have c2 : (Value.ref C :: bm).contains (.type "AttributeError") = false := by rw [List.contains_cons, hT, F.noAttr]; rfl
  have c3 : (Value.ref C :: bm).contains (.type "NameError") = false := by rw [List.contains_cons, hT, F.noName]; rfl
  refine codeAny_builtinAt F.entry ?_
  unfold Builtin.«BaseException.__new__»
  refine wpAt_bind ?_
  show wpAt _ _ _ (stack >>= _) _ _ _
  refine wpAt_bind (wpAt_stack fun p below => wpAt_of_wpAny ?_)
  wp_walk
  refine wpAt_of_wpAny ?_
  rw [F.owner]
  repeat (first | with_reducible refine wpAny_madeHere_exc F.canon hC ?_ | with_reducible refine wpAny_loadPart_at hC ?_ | (with_reducible refine wpAny_isSubtype_exc hC ?_; first | rw [c1] | rw [c2] | rw [c3]) | wp_step)
  show R _ _
  rw [Heap.size_push]
  exact hq
theorem type_callK (F : ExcBaseFacts B newId initId bmB) (hT : ∀ Y : String, bm.contains (.type Y) = bmB.contains (.type Y)) {l : List Value} {fI : Addr} {Q : Fin → Shared → Prop}
    (hC : hp.get? C = some (excClassObj nm q C N bs bm hd sn sub ab col dd k0 k1 k2 k3 k5 newId))
    (hi : W.Looks (model prog w) hp (typeLookup (.ref C) "__init__") (some (.ref fI))) (hb : ∀ self, W.Looks (model prog w) hp (bindSpecial (.ref fI) self) (.ref fI, [self])) (hl : l.length ≤ sizeLine)
    (hq : codeAny (model prog w) A (.call (.ref fI) ⟨.ref (hp.objs.size + 1) :: l, [(f, u)]⟩)
      (fun r s' => match r with | .ok (.ret v) => v = .none ∧ Q (.done (.ret (.ref (hp.objs.size + 1)))) s' | .ok _ => False | .error e => E e s')
      ⟨(hp.push (W.kdv_tup l)).push (excO C hp.objs.size), g, dr, tk, os⟩) :
    wpAny (model prog w) A (Builtin.«type.__call__» ⟨.ref C :: l, [(f, u)]⟩) Q E ⟨hp, g, dr, tk, os⟩ := by
  repeat (first | with_reducible refine wpAny_loadPart_at hC ?_ | with_reducible refine wpAny_madeBy_exc hC ?_ | wp_step)
  refine codeAny_call_builtin_code (Code.quiet_builtin _ F.quiet) (chk_newK F hT hC ?_)
  refine newK F hT hC ?_ hl
  show wpAny _ _ _ _ _ _
  have k : ∀ b o, hp.get? b = some o → ((hp.push (W.kdv_tup l)).push (excO C hp.objs.size)).get? b = some o := fun b o e => Heap.get?_push_of_some _ (Heap.get?_push_of_some _ e)
  have hC₁ := k _ _ hC
  have hget : ((hp.push (W.kdv_tup l)).push (excO C hp.objs.size)).get? (hp.objs.size + 1) = some (excO C hp.objs.size) := by heap_get
  have hcC : (Value.ref C :: bm).contains (.ref C) = true := by simp
  have i1 := hi.keeps k
  have b1 := (hb (.ref (hp.objs.size + 1))).keeps k
  unfold isInstance
  repeat (first | with_reducible refine wpAny_loadPart_at hget ?_ | (with_reducible refine wpAny_isSubtype_exc hC₁ ?_; rw [hcC]) | wp_step)
  show wpAny _ _ (typeLookup (.ref C) _) _ _ _
  refine i1.at ?_
  refine wpAny_holding (wpAny_bind (b1.at ?_))
  refine wpAny_bind (wpAny_call (codeAny_mono hq fun r s' z => ?_))
  rcases r with e | (v | _ | _ | _) <;> first | exact z | exact z.elim | skip
  obtain ⟨rfl, z⟩ := z
  first
    | exact wpAny_pure (wpAny_pure z)
    | (wp_walk; exact z)
theorem callK (F : ExcBaseFacts B newId initId bmB) (hT : ∀ Y : String, bm.contains (.type Y) = bmB.contains (.type Y)) {l : List Value} {fI : Addr}
    (hC : hp.get? C = some (excClassObj nm q C N bs bm hd sn sub ab col dd k0 k1 k2 k3 k5 newId))
    (hi : W.Looks (model prog w) hp (typeLookup (.ref C) "__init__") (some (.ref fI))) (hb : ∀ self, W.Looks (model prog w) hp (bindSpecial (.ref fI) self) (.ref fI, [self])) (hl : l.length ≤ sizeLine)
    (hq : codeAny (model prog w) (A.under (.builtin "type.__call__" ⟨.ref C :: l, [(f, u)]⟩)) (.call (.ref fI) ⟨.ref (hp.objs.size + 1) :: l, [(f, u)]⟩) (W.InitBack (hp.objs.size + 1) R)
      ⟨(hp.push (W.kdv_tup l)).push (excO C hp.objs.size), g, dr, tk, os⟩) :
    codeAny (model prog w) A (.call (.ref C) ⟨l, [(f, u)]⟩) R ⟨hp, g, dr, tk, os⟩ := by
  have f1 := tc_lookup
  have f2 := tc_bind (.ref C)
  have hTy : (⟨hp, g, dr, tk, os⟩ : Shared).TypeIs (.ref C) "type" := ⟨_, hC, rfl⟩
  refine codeAny_of_tree ?_
  show wpAny _ _ (callAny (.ref C) _) _ _ _
  repeat (any_goals (first | assumption | with_reducible refine wpAny_loadPart_at hC ?_ | wp_step))
  refine ⟨rfl, ?_⟩
  refine codeAny_call_builtin_at (Code.quiet_builtin _ (by decide +kernel)) entry_typeCall (chk_tcK hC (type_callK F hT hC hi hb hl ?_))
  refine codeAny_mono hq fun r s' z => ?_
  rcases r with e | (v | _ | _ | _) <;> exact z
end
end HandSPX
end PySem
namespace DL
open PySem L2 PySem.Spec PyProof.Rows
section
variable {X : Cx} {C fI : Addr} {k : Nat} {fd : FuncData} {pins : List (Addr × Obj)} {σ : L2.St} {H1 : Hp} {s1 : Shared} {Q : XK}
theorem run_mkxK {f : Str} (M : XMk X.prog X.w X.K X.mg X.base k C fI fd (some f)) (hr : Room (k + 1) X.A) (gd : X.A.guards = some []) {u : Value} {v : V} (I1 : Inv X pins σ H1 s1) (r1 : RelV v u)
    (h : ∀ d, H1 d = none → Q (.ref C) (some d) (upd H1 d (.xd [(f, v)]))) :
    wpAny (model X.prog X.w) X.A (call (.ref C) [] [(f, u)]) (MkP X pins σ Q) X.xe s1 := by
  have T := M.xc.T
  obtain ⟨nm, q, N, bs, bm, sn, sub, ab, col, dd, k0, k1, k2, k3, k5, hC, hbm⟩ := T.cls
  obtain ⟨hp, g, dr, tk, os⟩ := s1
  have hsz : hp.objs.size ≤ hp.objs.size + 1 := Nat.le_succ _
  have hn : H1 (hp.objs.size + 1) = none := I1.hok.fresh hsz
  have kk : ∀ b o, hp.get? b = some o → ((hp.push (PySem.W.kdv_tup [])).push (PySem.HandSPX.excO C hp.objs.size)).get? b = some o := fun b o e => Heap.get?_push_of_some _ (Heap.get?_push_of_some _ e)
  have hget : ((hp.push (PySem.W.kdv_tup [])).push (PySem.HandSPX.excO C hp.objs.size)).get? (hp.objs.size + 1) = some (PySem.HandSPX.excO C hp.objs.size) := by heap_get
  have I2 : Inv X pins σ (upd H1 (hp.objs.size + 1) (exo (hp.objs.size + 1) C none)) ⟨(hp.push (PySem.W.kdv_tup [])).push (PySem.HandSPX.excO C hp.objs.size), g, dr, tk, os⟩ :=
    I1.laid (t' := tk) (a := hp.objs.size + 1) (o := exo (hp.objs.size + 1) C none) (h' := (hp.push (PySem.W.kdv_tup [])).push (PySem.HandSPX.excO C hp.objs.size)) kk hsz (exo_ok hget)
  have r2 : Vals [V.ref (hp.objs.size + 1), v] [Value.ref (hp.objs.size + 1), u] := .cons rfl (.cons r1 .nil)
  obtain ⟨hno, F1, hb, hkw⟩ := M.f1 f rfl
  have bd : BindsTo ⟨(hp.push (PySem.W.kdv_tup [])).push (PySem.HandSPX.excO C hp.objs.size), g, dr, tk, os⟩ fd ⟨[Value.ref (hp.objs.size + 1)], [(f, u)]⟩ ((["self", f] : List Str).zip [Value.ref (hp.objs.size + 1), u]) := hkw.to _ [Value.ref (hp.objs.size + 1)] [u] I2.kIn rfl rfl
  refine wpAny_call (PySem.HandSPX.callK F.excBase_ValueError (fun Y => PySem.HandSPX.refsVE_contains Y bm hbm) (I1.kIn _ _ hC) (PySem.W.looks_findIn I1.kIn M.iC) (fun self => PySem.W.bind_fn I1.kIn self M.tI) (Nat.zero_le _)
    (codeAny_mono (F1.run _ X.stack _ _ ⟨[Value.ref (hp.objs.size + 1)], [(f, u)]⟩ [Value.ref (hp.objs.size + 1), u] [V.ref (hp.objs.size + 1), v]
      (fun v2 H2 => v2 = .non ∧ ∃ d, H1 d = none ∧ d ≠ hp.objs.size + 1 ∧ H2 = upd (upd (upd H1 (hp.objs.size + 1) (exo (hp.objs.size + 1) C none)) d (exd d [(f, v)])) (hp.objs.size + 1) (exo (hp.objs.size + 1) C (some d))) (fun _ _ _ => False) (hr.make C [] [(f, u)]) gd (I2.env0.make C [] [(f, u)]) bd r2
      ⟨_, v, rfl, M.xc, hno, upd_same, fun dx hd hne => ⟨rfl, dx, by rw [upd_ne hne] at hd; exact hd, hne, rfl⟩⟩) fun r s' hq' => ?_))
  cases r with
  | error er => exact (cx_no hq').elim
  | ok fl =>
    cases fl with
    | ret u =>
      obtain ⟨v2, H2, os2, bare2, un2, hok2, rv, ev, d, hd, hne, eq⟩ := hq'
      subst ev
      subst eq
      obtain ⟨h2, g2, d2, t2, os'⟩ := s'
      refine ⟨rv, mk_end (raises_own T.exC T.tyC) I1 hsz kk un2 hok2 os2 bare2 upd_same (by rw [upd_ne hne, upd_same]) hd ?_⟩
      have e : upd (del (upd (upd (upd H1 (hp.objs.size + 1) (exo (hp.objs.size + 1) C none)) d (exd d [(f, v)])) (hp.objs.size + 1) (exo (hp.objs.size + 1) C (some d))) (hp.objs.size + 1)) d (.xd [(f, v)]) = upd H1 d (.xd [(f, v)]) := by
        funext b
        by_cases h1 : b = d
        · subst h1; rw [upd_same, upd_same]
        · rw [upd_ne h1, upd_ne h1]
          by_cases h2 : b = hp.objs.size + 1
          · subst h2; rw [del_same, hn]
          · rw [del_ne h2, upd_ne h2, upd_ne h1, upd_ne h2]
      rw [e]
      exact h d hd
    | next => exact False.elim hq'
    | brk => exact False.elim hq'
    | cont => exact False.elim hq'
end
section
variable {X : Cx} {g : Sg} {E : EX} {x : Str} {p pos kp : Pos} {e : Expr} {f : Str} {cl : CL}
theorem re_makeXK (ok : SgOk X g E) (hg : Gl X x) (hdb : (x == ("__debug__" : Str)) = false) (el : g.gl.lookup x = some (.xc (some f))) (hl : PK X [⟨some f, e, kp⟩] (rdL X.K E 1 cl)) :
    PE X (.Call (.Name x p) [] [⟨some f, e, kp⟩] pos) (rdV X.K E (cMakeX x (some f) cl)) := by
  obtain ⟨C, fI, fd, k, hc, hm, M, _, _, hr⟩ := ok.gl _ _ el
  refine ⟨fun pins s σ H Q' I h => ?_⟩
  have t := make_imp (n := 1) (Q' := Q') hc h rfl
  have hks : ([⟨some f, e, kp⟩] : List Keyword).map (·.arg) = [f].map some := rfl
  refine wpAny_Call_Name_kw (ld_glob I hg hm ?_ hdb)
  refine PySem.W.callWith_KW0 (h₀ := X.base) I.ok.mod.kin M.xc.T.kC (kw_all hks) (thn (hl.run pos pins s σ H _ I t) ?_) (by rw [kw_none hks]; rfl)
  rintro ws s2 ⟨zs, H2, I2, rz, q⟩
  refine ⟨I2.kIn, ?_⟩
  rw [kw_keys hks]
  cases rz with
  | nil => exact q.elim
  | cons r1 rz =>
    cases rz with
    | cons _ _ => exact q.elim
    | nil => exact wpAny_mono (run_mkxK (Q := fun cls d H' => ∀ a, H' a = none → Q' (.ref a) (upd H' a (xhV a cls d))) M hr ok.gd I2 r1 q) (fun u s' q => mk_held q fun cls d H' a w na => w a na) fun _ _ z => z
end
def vMakeXK : VR := fun r g e => match e with
  | .Call (.Name x _) [] [⟨some f, e, kp⟩] _ => if globB g x = true then match g.gl.lookup x, kOf r g [⟨some f, e, kp⟩] with
    | some (.xc (some f')), some l => if f' = f then some (cMakeX x (some f) l) else none
    | _, _ => none else none
  | _ => none
theorem vMakeXK_ok : VrOk vMakeXK := by
  intro r R X g E e c ok h
  unfold vMakeXK at h
  split at h
  · rename_i x p f e kp pos
    split at h
    · rename_i hg
      obtain ⟨q1, q2⟩ := globB_is ok hg
      split at h
      · rename_i f' l el hl
        split at h
        · rename_i hf
          subst hf
          cases h
          exact re_makeXK ok q1 q2 el (kOf_ok R ok hl)
        · cases h
      · cases h
    · cases h
  · cases h
end DL
/-! repr of a dict of plain values -/
namespace DL
open PySem L2 PySem.Spec PyProof.Rows
def scalP : D → Option PyData
  | .non => some .none
  | .bl b => some (.bool b)
  | .int i => some (.int i)
  | .str x => some (.str x)
  | _ => none
def kPy : D → Option PyData
  | .int i => some (.int i)
  | .str x => some (.str x)
  | _ => none
def dctP : List (D × D) → Option (List (PyData × PyData))
  | [] => some []
  | (k, v) :: r => match kPy k, scalP v, dctP r with
    | some a, some b, some t => some ((a, b) :: t)
    | _, _, _ => none
def reprM2 : List D → M (D × Bool)
  | [.dct kvs] => fun Q _ => match dctP kvs with
    | some ps => (PyData.dict ps).showable = true ∧ (PyData.dict ps).shown.length ≤ sizeLine ∧ (PyData.dict ps).depth ≤ 100 ∧ Q (.str (PyData.dict ps).shown, false)
    | none => False
  | ds => reprM ds
theorem scal_reads {K : PySem.W.Frag} {H : Hp} {hp : Heap} {v : V} {d : D} {p : PyData} {u : Value} (r : Rep K H v d) (e : scalP d = some p) (rv : RelV v u) : Reads hp u p [] := by
  cases d <;> simp only [scalP, Option.some.injEq, reduceCtorEq] at e <;> subst e
  · cases r; cases rv; exact .none
  · cases r; cases rv; exact .bool _
  · cases r; obtain ⟨t, rfl⟩ := rv; exact .int _ t
  · cases r; obtain ⟨t, rfl⟩ := rv; exact .str _ t
theorem key_reads {hp : Heap} {k : Key} {p : PyData} {u : Value} (e : kPy (kD k) = some p) (h : keyIs k u = true) : Reads hp u p [] := by
  rcases keyIs_shape h with ⟨i, t, rfl, rfl⟩ | ⟨x, t, rfl, rfl⟩
  · simp only [kD, kPy, Option.some.injEq] at e
    subst e
    exact .int i t
  · simp only [kD, kPy, Option.some.injEq] at e
    subst e
    exact .str x t
theorem dct_reads {P : Program} {w : World} {K : PySem.W.Frag} {H : Hp} {hp : Heap} : ∀ {ks : List (Key × V)} {kvs : List (D × D)} {ps : List (PyData × PyData)} {vs : List (Key × Value)} {es : List DictEntry}, RepK K H ks kvs → dctP kvs = some ps → KV ks vs → Pairs (mixKind P w) es vs →
    ReadsAll hp (es.map (·.key)) (ps.map (·.1)) [] ∧ ReadsAll hp (es.map (·.val)) (ps.map (·.2)) []
  | _, _, _, _, _, .nil, e, kv, pr => by
    cases kv
    cases pr
    simp only [dctP, Option.some.injEq] at e
    subst e
    exact ⟨.nil, .nil⟩
  | _, _, _, _, _, .cons (k := k) (d := d) (kvs := kvs') r t, e, kv, pr => by
    cases kv with
    | cons q kv =>
      cases pr with
      | cons p1 p2 pr =>
        obtain ⟨q1, q2⟩ := q
        simp only [dctP] at e
        cases ea : kPy (kD k) with
        | none => rw [ea] at e; simp at e
        | some a =>
          cases eb : scalP d with
          | none => rw [ea, eb] at e; simp at e
          | some b =>
            cases ec : dctP kvs' with
            | none => rw [ea, eb, ec] at e; simp at e
            | some tt =>
              rw [ea, eb, ec] at e
              simp only [Option.some.injEq] at e
              subst e
              obtain ⟨w1, w2⟩ := dct_reads (hp := hp) t ec kv pr
              dsimp only at q1 q2
              subst q1
              rw [← p2] at q2
              exact ⟨ReadsAll.cons (as := []) (bs := []) (key_reads ea p1) w1, ReadsAll.cons (as := []) (bs := []) (scal_reads r eb q2) w2⟩
theorem b_repr2 {X : Cx} (gd : X.A.guards = some []) (hu : X.A.units + 110 < cLine) : CallR X (.builtin "repr") (rcM X.K reprM2) := by
  intro pins s σ H xs us Q I r h
  obtain ⟨F, ds, Q2, E, sm, b, h, k⟩ := h
  unfold reprM2 at h
  split at h
  · rename_i kvs
    obtain ⟨v, rfl, b1⟩ := b.one
    split at h
    · rename_i ps e
      obtain ⟨h1, h2, h3, q⟩ := h
      have rp := b1.rep sm
      obtain ⟨u, rfl, rv⟩ := Vals.one r
      have fin : Q (.str (PyData.dict ps).shown) H := k _ F H (.str _, false) (Grow.refl sm) (Val.of (.str _)) q
      cases rp with
      | dct ha rk =>
        cases rv
        obtain ⟨_, hsm, vs, kv, o, es, ep, ho, hx, hd, _, pr, _⟩ := dk_of I.hok ha
        obtain ⟨w1, w2⟩ := dct_reads (hp := s.heap) rk e kv pr
        refine repr_of_reads' (Reads.dict ho hx.1 hd w1 w2) h1 (fun _ hm => ?_) gd (by omega) (fun _ _ e => e) (fun h' u tk hk => ⟨.str _, H, I.kept (t' := tk) hk, ⟨_, rfl⟩, fin⟩) h2
        rw [List.append_nil, List.mem_singleton] at hm
        rw [hm, beq_self_eq_true] at hsm
        cases hsm
    · exact h.elim
  · exact b_repr gd hu pins s σ H xs us Q I r ⟨F, ds, Q2, E, sm, b, h, k⟩
/-- .. with keywords of errors -/
def withZ (R : Rules) : Rules where
  v := vMakeXK :: (withY R).v
  i := R.i
  s := (withY R).s
  t := R.t
theorem withZ_ok {R : Rules} (O : RulesOk R) : RulesOk (withZ R) where
  v := fun f hf => by
    simp only [withZ, List.mem_cons] at hf
    rcases hf with rfl | hf
    · exact @vMakeXK_ok
    · exact (withY_ok O).v f hf
  i := O.i
  s := (withY_ok O).s
  t := O.t
end DL
/-! stepping: errors made, held, raised, caught -/
namespace DL
open PySem L2
section
variable {ρ ρ' : Env} {nx bk ct : Env → Prop} {rt ro : D → Env → Prop} {W : EndD} {EE : Xn → Env → Prop} {a b : CS} {i j : Nat} {d : D} {bb : Bool}
variable {xa xb xc : CB} {Q : D × Bool → Prop} {QB : Bool → Prop} {E : Xn → Prop} {l : CL} {c f : Str} {fs : List (Str × D)} {gl : List (Str × GV)} {t : XT} {fo : Option Str}
def MKX1 (c f : Str) (Q : D × Bool → Prop) (ds : List D) : Prop := match ds with
  | [d] => Q (.exn c [(f, d)], false)
  | _ => False
def MKX0 (c : Str) (Q : D × Bool → Prop) (ds : List D) : Prop := match ds with
  | [] => Q (.exn c [], false)
  | _ => False
theorem w_makeX1 (h : l ρ (MKX1 c f Q) E) : cMakeX c (some f) l ρ Q E := bnd_k (fun ds => by rcases ds with _ | ⟨d, _ | ⟨e, ds⟩⟩ <;> rfl) h
theorem w_mkx1 (h : Q (.exn c [(f, d)], false)) : MKX1 c f Q [d] := h
theorem w_makeX0 (h : l ρ (MKX0 c Q) E) : cMakeX c none l ρ Q E := bnd_k (fun ds => by cases ds <;> rfl) h
theorem w_mkx0 (h : Q (.exn c [], false)) : MKX0 c Q [] := h
theorem w_isx (h : xa ρ (fun d => isxM gl t d Q E) E) : cIsx gl xa t ρ Q E := h
theorem w_isxk (e1 : gl.lookup c = some (.xc fo)) (e2 : isxV gl c t = some bb) (h : Q (.bl bb, false)) : isxM gl t (.exn c fs) Q E := by
  show (match gl.lookup c, isxV gl c t with
    | some (.xc _), some b => Q (.bl b, false)
    | _, _ => False)
  rw [e1, e2]; exact h
theorem w_atx (h : xa ρ (fun o => attX gl f o Q E) E) : cAtx gl f xa ρ Q E := h
theorem w_atxk (e1 : gl.lookup c = some (.xc (some f))) (e2 : fs.lookup f = some d) (h : Q (d, false)) : attX gl f (.exn c fs) Q E := by
  show (match gl.lookup c with
    | some (.xc (some f')) => f' = f ∧ match fs.lookup f with
      | some d => Q (d, false)
      | none => False
    | _ => False)
  rw [e1]
  refine ⟨rfl, ?_⟩
  rw [e2]; exact h
theorem w_atxo {cc : Str} (h : attM gl f (.obj cc fs) Q E) : attX gl f (.obj cc fs) Q E := h
theorem w_count (h : xa ρ (fun x => isL x = true ∧ xb ρ (fun y => countM x y Q E) E) E) : cCount xa xb ρ Q E := h
theorem w_countk {ds : List D} {y : D} {ps : List PyData} {p : PyData} {n : Nat} (e1 : pyL ds = some ps) (e2 : y.py = some p) (h1 : PyData.canLayAll0 ps = true) (h2 : p.canLay0 = true) (h3 : p.depth ≤ 60) (e : (ps.countP fun z => PyData.eqv z p) = n) (h : Q (.int (n : Int), false)) : countM (.lst ds) y Q E := by
  show (match pyL ds, y.py with
    | some ps, some p => (PyData.canLayAll0 ps = true ∧ p.canLay0 = true ∧ p.depth ≤ 60) ∧ Q (.int ((ps.countP fun z => PyData.eqv z p : Nat) : Int), false)
    | _, _ => False)
  rw [e1, e2]
  refine ⟨⟨h1, h2, h3⟩, ?_⟩
  rw [e]; exact h
theorem w_get2 (h : xa ρ (fun x => isDc x = true ∧ xb ρ (fun y => xc ρ (fun z => getM2 x y z Q E) E) E) E) : cGet2 xa xb xc ρ Q E := h
def RAI (c : Str) (fo : Option Str) (ρ : Env) (EE : Xn → Env → Prop) (ds : List D) : Prop := match fo, ds with
  | none, [] => EE ⟨c, []⟩ ρ
  | some f, [d] => EE ⟨c, [(f, d)]⟩ ρ
  | _, _ => False
theorem w_raise (h : l ρ (RAI c fo ρ EE) (fun x => EE x ρ)) : sRaise c fo l ρ W EE := h
theorem w_rai0 (h : EE ⟨c, []⟩ ρ) : RAI c none ρ EE [] := h
theorem w_rai1 (h : EE ⟨c, [(f, d)]⟩ ρ) : RAI c (some f) ρ EE [d] := h
def TRYE (gl : List (Str × GV)) (i j : Nat) (c : Str) (nx : Env → Prop) (EE : Xn → Env → Prop) (x : Xn) (ρ' : Env) : Prop := match isX gl x.c c with
  | some true => i < ρ'.length ∧ nx ((ρ'.set j (.sh (.exn x.c x.fs))).set i .no)
  | some false => EE x ρ'
  | none => False
theorem w_tryK (h : b ρ ⟨nx, rt, bk, ct, ro⟩ (TRYE gl i j c nx EE)) : sTryK gl i j c b ρ ⟨nx, rt, bk, ct, ro⟩ EE := h
theorem w_trye {x : Xn} (e : isX gl x.c c = some true) (h1 : i < ρ.length) (e2 : (ρ.set j (.sh (.exn x.c x.fs))).set i .no = ρ') (h : nx ρ') : TRYE gl i j c nx EE x ρ := by
  unfold TRYE; rw [e]; subst e2; exact ⟨h1, h⟩
/-! repr -/
def repOk (d : D) : Bool := match d with
  | .dct kvs => (match dctP kvs with
    | some ps => (PyData.dict ps).showable && decide ((PyData.dict ps).shown.length ≤ sizeLine) && decide ((PyData.dict ps).depth ≤ 100)
    | none => false)
  | d => (match d.py with
    | some p => p.canLay0 && p.showable && decide (p.shown.length ≤ sizeLine) && decide (p.depth ≤ 100)
    | none => false)
def repS (d : D) : Str := match d with
  | .dct kvs => (match dctP kvs with
    | some ps => (PyData.dict ps).shown
    | none => "")
  | d => (match d.py with
    | some p => p.shown
    | none => "")
theorem w_rep (h1 : repOk d = true) (h : Q (.str (repS d), false)) : reprM2 [d] Q E := by
  have gen : ∀ {d : D}, (match d.py with | some p => p.canLay0 && p.showable && decide (p.shown.length ≤ sizeLine) && decide (p.depth ≤ 100) | none => false) = true → Q (.str (match d.py with | some p => p.shown | none => ""), false) → reprM [d] Q E := by
    intro d h1 h
    show (match d.py with | some p => p.canLay0 = true ∧ p.showable = true ∧ p.shown.length ≤ sizeLine ∧ p.depth ≤ 100 ∧ Q (.str p.shown, false) | none => False)
    split at h1
    · rename_i p e
      simp only [Bool.and_eq_true, decide_eq_true_eq] at h1
      rw [e] at h
      exact ⟨h1.1.1.1, h1.1.1.2, h1.1.2, h1.2, h⟩
    · cases h1
  cases d with
  | dct kvs =>
    unfold repOk at h1
    unfold repS at h
    show (match dctP kvs with | some ps => (PyData.dict ps).showable = true ∧ (PyData.dict ps).shown.length ≤ sizeLine ∧ (PyData.dict ps).depth ≤ 100 ∧ Q (.str (PyData.dict ps).shown, false) | none => False)
    dsimp only at h1 h
    split at h1
    · rename_i ps e
      simp only [Bool.and_eq_true, decide_eq_true_eq] at h1
      rw [e] at h
      exact ⟨h1.1.1, h1.1.2, h1.2, h⟩
    · cases h1
  | non => exact gen (d := .non) h1 h
  | bl b => exact gen (d := .bl b) h1 h
  | int i => exact gen (d := .int i) h1 h
  | str x => exact gen (d := .str x) h1 h
  | lst xs => exact gen (d := .lst xs) h1 h
  | tup xs => exact gen (d := .tup xs) h1 h
  | obj c fs => exact gen (d := .obj c fs) h1 h
  | exn c fs => exact gen (d := .exn c fs) h1 h
  | raw v => exact gen (d := .raw v) h1 h
  | gen => exact gen (d := .gen) h1 h
  | scr ns => exact gen (d := .scr ns) h1 h
end
end DL
namespace DL.K07
open PySem L2

local macro_rules | `(tactic| walk_at "dl") => `(tactic| simp only [ret, fail, bnd, frz, cC, cVar, bVar, cBin, cNeg, cNot, cAnd, cOr, cIf, vT, tCm, tCh, tTru, tNo, tAn, tOr', cNil, cCons, cTup, cLst, cIx, oNo, oIs, cSl, cCall, callD, cCallK, cB, sNil, sSeq, sDrop, sSet, sAsg, sPar, sRet, sRetN, sIf, sBrk, sCnt, sNo, sFor, sFrz, sApp, sPut, sSetU, uOf, uPop, uPopAt, isOwL, sAdopt,
  gNm, gTp, gsCons, gsNil, tYesD, cLc, iSeq, iRng, iEn, cIsi, cLRg, cBest, cSrtSet, cRev, iZp, cCallF, cCallKF, callF, sRetO, sRetF, tLend, frzE, cDct, prM, cJoin, cel, rgsM, len_lst, len_tup, len_dct, len_str, abs_int, list_lst, list_tup, tuple_lst, tuple_tup, items_lst, items_tup, items_str, enum_lst, enum_tup,
  bin_addI, bin_subI, bin_mulI, bin_divI, bin_modI, bin_powI, bin_addS, bin_addL, bin_addT, bin_mulL, bin_mulT, bin_mulS, cmp_eq, cmp_ne, cmp_lt, cmp_le, cmp_gt, cmp_ge, cmp_is, cmp_isnt, cmp_inS, cmp_ninS, eq_int, eq_str, ix_lst, ix_tup, tru_bl, tru_lst, tru_tup, tru_int, tru_non, non_non, non_int, non_str, non_bl, non_lst, non_tup, at_zero, at_one, at_two,
  isi_non, isi_bl, isi_int, isi_str, isi_lst, isi_tup, isi_dct, sub_tab, List.any_cons, List.any_nil, Bool.or_false, Bool.or_true, Bool.true_or, Bool.false_or, Bool.not_true, Bool.not_false,
  List.getElem?_cons_zero, List.getElem?_cons_succ, List.set_cons_zero, List.set_cons_succ, Bool.false_and, Bool.true_and, Bool.and_false, Bool.and_true, Bool.false_eq_true, if_true, if_false, ite_true, ite_false, List.length_cons, List.length_nil, List.length_map, true_and, and_true, ne_eq, not_true_eq_false, not_false_eq_true, reduceCtorEq, Nat.reduceAdd, Nat.zero_add, Int.cast_ofNat_Int, beq_self_eq_true, decide_true, decide_false, *])
local macro_rules | `(tactic| walk_at "dl0") => `(tactic| simp only [ret, fail, bnd, frz, cC, cVar, bVar, cBin, cNeg, cNot, cAnd, cOr, cIf, vT, tCm, tCh, tTru, tNo, tAn, tOr', cNil, cCons, cTup, cLst, cIx, oNo, oIs, cSl, cCall, callD, cCallK, cB, sNil, sSeq, sDrop, sSet, sAsg, sPar, sRet, sRetN, sIf, sBrk, sCnt, sNo, sFor, sFrz, sApp, sPut, sSetU, uOf, uPop, uPopAt, isOwL, sAdopt,
  gNm, gTp, gsCons, gsNil, tYesD, cLc, iSeq, iRng, iEn, cIsi, cLRg, cBest, cSrtSet, cRev, iZp, cCallF, cCallKF, callF, sRetO, sRetF, tLend, frzE, cDct, prM, cJoin, cel, rgsM, len_lst, len_tup, len_dct, len_str, abs_int, list_lst, list_tup, tuple_lst, tuple_tup, items_lst, items_tup, items_str, enum_lst, enum_tup,
  bin_addI, bin_subI, bin_mulI, bin_divI, bin_modI, bin_powI, bin_addS, bin_addL, bin_addT, bin_mulL, bin_mulT, bin_mulS, cmp_eq, cmp_ne, cmp_lt, cmp_le, cmp_gt, cmp_ge, cmp_is, cmp_isnt, cmp_inS, cmp_ninS, eq_int, eq_str, ix_lst, ix_tup, tru_bl, tru_lst, tru_tup, tru_int, tru_non, non_non, non_int, non_str, non_bl, non_lst, non_tup, at_zero, at_one, at_two,
  isi_non, isi_bl, isi_int, isi_str, isi_lst, isi_tup, isi_dct, sub_tab, List.any_cons, List.any_nil, Bool.or_false, Bool.or_true, Bool.true_or, Bool.false_or, Bool.not_true, Bool.not_false,
  List.getElem?_cons_zero, List.getElem?_cons_succ, List.set_cons_zero, List.set_cons_succ, Bool.false_and, Bool.true_and, Bool.and_false, Bool.and_true, Bool.false_eq_true, if_true, if_false, ite_true, ite_false, List.length_cons, List.length_nil, List.length_map, true_and, and_true, ne_eq, not_true_eq_false, not_false_eq_true, reduceCtorEq, Nat.reduceAdd, Nat.zero_add, Int.cast_ofNat_Int, beq_self_eq_true, decide_true, decide_false])
local macro_rules | `(tactic| walk_at "w1") => `(tactic| first
  | with_reducible refine w_fst ?_ | with_reducible refine w_frz ?_ | with_reducible refine w_lcons ?_ | with_reducible refine w_lnil ?_ | with_reducible refine w_c ?_
  | ((with_reducible refine w_var (d := ?_) ?_ ?_); rotate_left 1; exact rfl) | ((with_reducible refine w_bvar (d := ?_) ?_ ?_); rotate_left 1; exact rfl) | ((with_reducible refine w_bvarO (d := ?_) (z := ?_) ?_ ?_); rotate_left 2; exact rfl)
  | with_reducible refine w_seq ?_ | with_reducible refine w_nil ?_ | with_reducible refine w_set ?_ | with_reducible refine w_ret ?_ | with_reducible refine w_if ?_
  | ((with_reducible refine w_setk (ρ' := ?_) ?_ ?_); rotate_left 1; (dsimp only [List.set_cons_zero, List.set_cons_succ, cel_f, cel_t, cel_tf]; exact rfl))
  | with_reducible refine w_par ?_
  | ((with_reducible refine w_park (ρ' := ?_) ?_ ?_); rotate_left 1; (dsimp only [List.set_cons_zero, List.set_cons_succ, cel_f, cel_t, cel_tf]; exact rfl))
  | with_reducible refine br_t ?_ | with_reducible refine br_f ?_ | with_reducible refine br_not ?_ | with_reducible refine br_and ?_ | with_reducible refine br_or ?_
  | ((with_reducible refine br_dt ?_ ?_); (first | assumption | decide +kernel | omega | (simp only [List.length_cons, List.length_nil] <;> omega))) | ((with_reducible refine br_df ?_ ?_); (first | assumption | decide +kernel | omega | (simp only [List.length_cons, List.length_nil] <;> omega)))
  | ((with_reducible refine br_kt ?_ ?_); (first | assumption | decide +kernel)) | ((with_reducible refine br_kf ?_ ?_); (first | assumption | decide +kernel))
  | with_reducible refine w_tcm ?_ | with_reducible refine w_eq ?_ | with_reducible refine w_ne ?_ | with_reducible refine w_eqS ?_ | with_reducible refine w_eqI ?_ | with_reducible refine w_ttru ?_ | with_reducible refine w_tno ?_ | with_reducible refine w_tan ?_ | with_reducible refine w_tor ?_ | with_reducible refine w_tch ?_
  | with_reducible refine w_call ?_ | ((with_reducible refine w_calld ?_ ?_); exact rfl) | with_reducible refine w_callK ?_ | ((with_reducible refine w_calldK (ds := ?_) ?_ ?_ ?_); rotate_left 1; (dsimp only [DL.pick, List.filterMap_cons, List.filterMap_nil, List.cons_append, List.nil_append, List.getElem?_cons_zero, List.getElem?_cons_succ]; exact rfl); exact rfl)
  | with_reducible refine w_callF ?_ | ((with_reducible refine w_callf ?_ ?_); exact rfl) | with_reducible refine w_b ?_
  | with_reducible refine w_tup ?_ | with_reducible refine w_lst ?_ | with_reducible refine w_ix ?_
  | ((with_reducible refine w_ixT (d := ?_) ?_ ?_); rotate_left 1; (first | assumption | exact at_zero | exact at_one | exact at_two | exact rfl)) | ((with_reducible refine w_ixL (d := ?_) ?_ ?_); rotate_left 1; (first | assumption | exact at_zero | exact at_one | exact at_two | exact rfl))
  | with_reducible refine w_sl ?_ | with_reducible refine w_ono ?_ | with_reducible refine w_oisC ?_ | ((with_reducible refine w_oisV (n := ?_) ?_ ?_); rotate_left 1; exact rfl) | with_reducible refine w_slL1 ?_ | with_reducible refine w_slT1 ?_ | with_reducible refine w_slL ?_ | with_reducible refine w_slT ?_
  | with_reducible refine w_bin ?_ | with_reducible refine w_addI ?_ | with_reducible refine w_subI ?_ | with_reducible refine w_mulI ?_ | with_reducible refine w_divI ?_ | with_reducible refine w_modI ?_ | with_reducible refine w_powI ?_ | with_reducible refine w_addS ?_ | with_reducible refine w_addL ?_ | with_reducible refine w_addT ?_ | with_reducible refine w_mulL ?_ | with_reducible refine w_mulS ?_
  | with_reducible refine w_lt ?_ | with_reducible refine w_le ?_ | with_reducible refine w_gt ?_ | with_reducible refine w_ge ?_ | with_reducible refine w_is ?_ | with_reducible refine w_isnt ?_ | with_reducible refine w_inSS ?_ | ((with_reducible refine w_inT (ss := ?_) ?_ ?_); rotate_left 1; exact rfl) | ((with_reducible refine w_ninT (ss := ?_) ?_ ?_); rotate_left 1; exact rfl) | with_reducible refine w_ninSS ?_
  | with_reducible refine w_eqSI ?_ | with_reducible refine w_eqIS ?_ | with_reducible refine w_eqNS ?_ | with_reducible refine w_eqNI ?_ | with_reducible refine w_eqSN ?_ | with_reducible refine w_eqIN ?_ | with_reducible refine w_eqB ?_
  | with_reducible refine w_nonN ?_ | with_reducible refine w_nonI ?_ | with_reducible refine w_nonS ?_ | with_reducible refine w_nonB ?_ | with_reducible refine w_nonL ?_ | with_reducible refine w_nonT ?_ | with_reducible refine w_nonD ?_ | with_reducible refine w_nonO ?_
  | with_reducible refine w_truB ?_ | with_reducible refine w_truL ?_ | with_reducible refine w_truT ?_ | with_reducible refine w_truI ?_ | with_reducible refine w_truN ?_
  | with_reducible refine w_not ?_ | with_reducible refine w_and ?_ | with_reducible refine w_andk ?_ | with_reducible refine w_or ?_ | with_reducible refine w_ork ?_ | with_reducible refine w_cif ?_ | with_reducible refine w_vt ?_ | with_reducible refine w_neg ?_ | with_reducible refine w_negk ?_
  | with_reducible refine w_lenL ?_ | with_reducible refine w_lenT ?_ | with_reducible refine w_lenD ?_ | with_reducible refine w_lenS ?_ | with_reducible refine w_lstL ?_ | with_reducible refine w_lstT ?_ | with_reducible refine w_tupL ?_ | with_reducible refine w_tupT ?_
  | with_reducible refine w_itL ?_ | with_reducible refine w_itT ?_ | with_reducible refine w_itS ?_ | with_reducible refine w_enL ?_ | with_reducible refine w_enT ?_ | with_reducible refine w_draw ?_ | with_reducible refine w_rng1 ?_ | with_reducible refine w_rng2 ?_
  | ((with_reducible refine w_lc (ρ0 := ?_) ?_ ?_); rotate_left 1; (dsimp only [wipeE, List.set_cons_zero, List.set_cons_succ]; exact rfl))
  | with_reducible refine w_iseq ?_ | with_reducible refine w_irng ?_ | with_reducible refine w_ien ?_ | with_reducible refine w_izp ?_ | with_reducible refine w_for ?_ | with_reducible refine w_asg ?_
  | ((with_reducible refine w_gnm (ρ' := ?_) ?_ ?_); rotate_left 1; (dsimp only [List.set_cons_zero, List.set_cons_succ]; exact rfl))
  | ((with_reducible refine w_gtp ?_ ?_); exact rfl) | with_reducible refine w_gscons ?_ | with_reducible refine w_gsnil ?_ | with_reducible refine w_yes ?_
  | with_reducible refine w_isi ?_ | ((with_reducible refine w_isiT ?_ ?_); exact rfl) | ((with_reducible refine w_isiF ?_ ?_); exact rfl)
  | with_reducible refine w_dct ?_ | with_reducible refine w_join ?_ | with_reducible refine w_best ?_ | with_reducible refine w_lrg ?_
  | with_reducible refine w_drop ?_ | with_reducible refine w_retN ?_ | with_reducible refine w_brk ?_ | with_reducible refine w_cnt ?_ | with_reducible refine w_uof ?_ | with_reducible refine w_setU ?_
  | ((with_reducible refine w_sfrz (ρ' := ?_) (d := ?_) (z := ?_) ?_ ?_ ?_); rotate_left 3; exact rfl; (dsimp only [List.set_cons_zero, List.set_cons_succ]; exact rfl))
  | ((with_reducible refine w_sfrz0 (d := ?_) ?_ ?_); rotate_left 1; exact rfl) | ((with_reducible refine w_sfrzN ?_ ?_); exact rfl)
  | ((with_reducible refine w_app (xs := ?_) (z := ?_) ?_ ?_); rotate_left 2; exact rfl)
  | ((with_reducible refine w_appk (ρ' := ?_) (xs := ?_) (z := ?_) ?_ ?_ ?_); rotate_left 3; exact rfl; (dsimp only [List.set_cons_zero, List.set_cons_succ]; exact rfl))
  | ((with_reducible refine w_retO (d := ?_) (z := ?_) ?_ ?_); rotate_left 2; exact rfl)
  | with_reducible refine w_star ?_ | ((with_reducible refine w_starc (ρ' := ?_) ?_ ?_); rotate_left 1; (dsimp only [List.set_cons_zero, List.set_cons_succ]; exact rfl))
  | with_reducible refine w_at2 ?_ | with_reducible refine w_make ?_ | with_reducible refine w_makeK ?_ | ((with_reducible refine w_mk ?_ ?_); exact rfl) | ((with_reducible refine w_mkK (ds := ?_) ?_ ?_ ?_); rotate_left 1; (dsimp only [DL.pick, List.filterMap_cons, List.filterMap_nil, List.cons_append, List.nil_append, List.getElem?_cons_zero, List.getElem?_cons_succ]; exact rfl); exact rfl)
  | ((with_reducible refine w_attM (c0 := ?_) (fs := ?_) (z := ?_) ?_ ?_ ?_ ?_); rotate_left 3; exact rfl; (first | assumption | kernel_rfl); (first | decide | (simp only [List.length_cons, List.length_nil, sizeLine_eq]; omega)))
  | ((with_reducible refine w_attk (ρ' := ?_) ?_ ?_ ?_); rotate_left 1; kernel_rfl; (dsimp only [List.set_cons_zero, List.set_cons_succ, List.cons_append, List.nil_append]; exact rfl))
  | ((with_reducible refine w_atOF (c0 := ?_) (fs := ?_) (d := ?_) (z := ?_) ?_ ?_ ?_ ?_); rotate_left 4; exact rfl; (first | assumption | kernel_rfl); exact rfl)
  | with_reducible refine w_iso ?_ | with_reducible refine w_meth ?_
  | with_reducible refine w_binoI ?_ | with_reducible refine w_binoS ?_ | with_reducible refine w_binoL ?_ | with_reducible refine w_binoT ?_ | ((with_reducible refine w_cmoP ?_ ?_ ?_); exact rfl; exact rfl)
  | with_reducible refine w_bino ?_ | with_reducible refine w_cmo ?_ | with_reducible refine w_uno ?_
  | ((with_reducible refine And.intro ?_ ?_); (first | exact rfl | assumption | decide | omega | (simp only [List.length_cons, List.length_nil, List.length_append, List.length_map, upto_len, sizeLine_eq] <;> omega))))
local macro_rules | `(tactic| walk_at "w2") => `(tactic| first
  | with_reducible refine w_makeX1 ?_ | with_reducible refine w_mkx1 ?_ | with_reducible refine w_makeX0 ?_ | with_reducible refine w_mkx0 ?_ | with_reducible refine w_isx ?_ | with_reducible refine w_atx ?_ | with_reducible refine w_atxo ?_
  | with_reducible refine w_count ?_ | with_reducible refine w_get2 ?_ | with_reducible refine w_raise ?_ | with_reducible refine w_rai0 ?_ | with_reducible refine w_rai1 ?_ | with_reducible refine w_tryK ?_)
local macro_rules | `(tactic| walk_at "w") => `(tactic| repeat first | walk_at "w1" | walk_at "w2" | walk_at "wi" | (with_reducible dsimp only))
abbrev LET : Str := "abcdefghijklmnopqrstuvwxyz"
abbrev NLS : Str := "\n"
def isSome' (d : D) : Bool := (tyN d).isSome
def w1B (d : D) : Bool := isSome' d && (match d with | .str s => decide (s.length ≤ 1000) && PyData.strOk s | _ => true)
def pyB (d : D) : Bool := match d.py with | none => true | some p => p.canLay0 && decide (p.depth ≤ 10)
def w2B (d : D) : Bool := w1B d && pyB d
def wB (d : D) : Bool := w1B d && (match d with | .tup ds => decide (ds.length ≤ 1000) && ds.all w2B | _ => true)
def intB (d : D) : Bool := match d with | .int _ => true | _ => false
def resB (s : Str) : Bool := (["input", "kind", "mark", "open", "self"] : List Str).any fun z => z == s
def nameB (d : D) : Bool := match d with
  | .str s => (decide ((1 : Int) ≤ s.length) && decide ((s.length : Int) ≤ 8)) && (!resB s && s.cps.toList.all fun c => inStr ⟨#[c]⟩ LET)
  | _ => false
def scalB (d : D) : Bool := match d with
  | .str s => decide ((s.length : Int) ≤ 60) && !inStr NLS s
  | .non => true
  | .int i => decide ((-1000000000000000000 : Int) ≤ i) && decide (i ≤ 1000000000000000000)
  | _ => false
def valB (d : D) : Bool := match d with
  | .tup ds => decide ((ds.length : Int) ≤ 20) && ds.all scalB
  | d => scalB d
def trueB (d : D) : Bool := match d with
  | .non => false
  | .int i => i != 0
  | .str s => s != ("" : Str)
  | .tup ds => !ds.isEmpty
  | _ => true
theorem name_str (s : Str) : nameB (.str s) = ((decide ((1 : Int) ≤ s.length) && decide ((s.length : Int) ≤ 8)) && (!resB s && s.cps.toList.all fun c => inStr ⟨#[c]⟩ LET)) := rfl
theorem scal_str (s : Str) : scalB (.str s) = (decide ((s.length : Int) ≤ 60) && !inStr NLS s) := rfl
theorem scal_int (i : Int) : scalB (.int i) = (decide ((-1000000000000000000 : Int) ≤ i) && decide (i ≤ 1000000000000000000)) := rfl
theorem val_tup (ds : List D) : valB (.tup ds) = (decide ((ds.length : Int) ≤ 20) && ds.all scalB) := rfl
theorem wB1 {d : D} (h : wB d = true) : w1B d = true := by
  unfold wB at h
  rw [Bool.and_eq_true] at h
  exact h.1
theorem w1_str2 {s : Str} (h : w1B (.str s) = true) : s.length ≤ 1000 ∧ PyData.strOk s = true := by
  unfold w1B at h
  rw [Bool.and_eq_true, Bool.and_eq_true] at h
  exact ⟨of_decide_eq_true h.2.1, h.2.2⟩
theorem w1_str {s : Str} (h : w1B (.str s) = true) : s.length ≤ 1000 := (w1_str2 h).1
theorem wB_tup2 {ds : List D} (h : wB (.tup ds) = true) : ds.length ≤ 1000 ∧ ∀ x ∈ ds, w1B x = true ∧ pyB x = true := by
  unfold wB at h
  rw [Bool.and_eq_true, Bool.and_eq_true] at h
  refine ⟨of_decide_eq_true h.2.1, fun x hx => ?_⟩
  have := List.all_eq_true.mp h.2.2 x hx
  unfold w2B at this
  rwa [Bool.and_eq_true] at this
theorem wB_tup {ds : List D} (h : wB (.tup ds) = true) : ds.length ≤ 1000 ∧ ∀ x ∈ ds, w1B x = true := ⟨(wB_tup2 h).1, fun x hx => ((wB_tup2 h).2 x hx).1⟩
theorem wB_mk {ds : List D} (h1 : ds.length ≤ 1000) (h2 : ∀ x ∈ ds, wB x = true ∧ pyB x = true) : wB (.tup ds) = true := by
  have e : ds.all w2B = true := List.all_eq_true.mpr fun x hx => by
    obtain ⟨a, b⟩ := h2 x hx
    unfold w2B
    rw [wB1 a, b]; rfl
  show (true && true && (decide (ds.length ≤ 1000) && ds.all w2B)) = true
  rw [e, decide_eq_true h1]
  rfl
theorem chars_eq (s : Str) : chars s = s.cps.toList.map fun c => .str ⟨#[c]⟩ := rfl
theorem chars_len (s : Str) : (chars s).length = s.length := by unfold chars; rw [List.length_map, Array.length_toList]; rfl
theorem scal_py {d : D} (w : w1B d = true) (h : scalB d = true) : ∃ p, d.py = some p ∧ p.canLay0 = true ∧ p.depth ≤ 0 := by
  cases d with
  | str s => exact ⟨_, rfl, (w1_str2 w).2, Nat.zero_le _⟩
  | non => exact ⟨_, rfl, rfl, Nat.zero_le _⟩
  | int i => exact ⟨_, rfl, rfl, Nat.zero_le _⟩
  | _ => cases h
theorem scals_py {ds : List D} (w : ∀ x ∈ ds, w1B x = true) (h : ds.all scalB = true) : pyOk ds := fun d hd => by
  obtain ⟨p, h1, h2, h3⟩ := scal_py (w d hd) (List.all_eq_true.mp h d hd)
  exact ⟨p, h1, h2, by omega⟩
theorem shaped_str {s : Str} (h : PyData.strOk s = true) : SeqAt.shaped (.str s) = true := by
  unfold SeqAt.shaped
  rw [PyData.canLay0, h]
  rfl
theorem ne_tup {ds : List D} {e : D} {p : PyData} {Q : Bool → Prop} {E : Xn → Prop} (w : ∀ x ∈ ds, w1B x = true) (h : ds.all scalB = true) (he : e.py = some p) (hs : SeqAt.shaped p = true) (hne : ∀ ps, PyData.eqv (.tuple ps) p = false) (q : Q false) : eqM (.tup ds) e Q E := by
  obtain ⟨ps, h1, _, h2⟩ := pyOk_shaped (scals_py w h)
  unfold eqM
  simp only [fl, D.py, h1, Option.map_some, he]
  refine ⟨h2, hs, ?_⟩
  rw [hne]; exact q
abbrev ECL : List Str := ["InvalidTree", "UnknownNode", "InvalidOperation", "InvalidItems", "InvalidWeights", "InvalidExpression", "InvalidPart", "InvalidComponent", "InvalidApp", "InvalidCells", "UnknownInstance", "UnknownCell", "InvalidValue", "InvalidChange", "InvalidUrgency", "InvalidPass", "InvalidLog", "InvalidText"]
def MKS (c : Str) : List D := ECL.map fun d => .bl (c == d)
def thB (d : D) : Bool := wB d && repOk d
/-! ### the text by places, the mirrors of its defs (printed) -/
def top (i : Nat) : Stmt := PySem.Challenge.pw_viewturns_k07_errors_made.main.body.getD i (.Pass ⟨0, 0, 0, 0⟩)
abbrev ge (x : Str) (v : GV) : Str × GV := (x, v)
def mth (i j : Nat) : Stmt := match top i with | .ClassDef _ _ _ b _ _ _ _ _ _ _ => b.getD j (.Pass ⟨0, 0, 0, 0⟩) | s => s
def gl0_0 : List (Str × GV) := [ge ("abs") (.bi "abs" absM),
  ge ("all") (.bi "all" allM),
  ge ("bool") (.ty "bool" noM),
  ge ("int") (.ty "int" noM),
  ge ("isinstance") (.sp),
  ge ("len") (.bi "len" lenM),
  ge ("range") (.sp),
  ge ("repr") (.bi "repr" reprM2),
  ge ("str") (.ty "str" noM),
  ge ("tuple") (.ty "tuple" tupleM),
  ge ("LETTERS") (.cv (.str "abcdefghijklmnopqrstuvwxyz")),
  ge ("LONGEST_NAME") (.cv (.int 8)),
  ge ("LONGEST_STRING") (.cv (.int 60)),
  ge ("MOST_SCALARS") (.cv (.int 20)),
  ge ("GREATEST") (.cv (.int 1000000000000000000)),
  ge ("RESERVED") (.cv (.tup [.str "input", .str "kind", .str "mark", .str "open", .str "self"])),
  ge ("TurnError") (.xb "TurnError"),
  ge ("ValueError") (.bt "ValueError"),
  ge (xisKey "InvalidTree" "InvalidTree") (.xis "InvalidTree" "InvalidTree" true),
  ge (xisKey "InvalidTree" "UnknownNode") (.xis "InvalidTree" "UnknownNode" false)]
def gl0_1 : List (Str × GV) := [ge (xisKey "InvalidTree" "InvalidOperation") (.xis "InvalidTree" "InvalidOperation" false),
  ge (xisKey "InvalidTree" "InvalidItems") (.xis "InvalidTree" "InvalidItems" false),
  ge (xisKey "InvalidTree" "InvalidWeights") (.xis "InvalidTree" "InvalidWeights" false),
  ge (xisKey "InvalidTree" "InvalidExpression") (.xis "InvalidTree" "InvalidExpression" false),
  ge (xisKey "InvalidTree" "InvalidPart") (.xis "InvalidTree" "InvalidPart" false),
  ge (xisKey "InvalidTree" "InvalidComponent") (.xis "InvalidTree" "InvalidComponent" false),
  ge (xisKey "InvalidTree" "InvalidApp") (.xis "InvalidTree" "InvalidApp" false),
  ge (xisKey "InvalidTree" "InvalidCells") (.xis "InvalidTree" "InvalidCells" false),
  ge (xisKey "InvalidTree" "UnknownInstance") (.xis "InvalidTree" "UnknownInstance" false),
  ge (xisKey "InvalidTree" "UnknownCell") (.xis "InvalidTree" "UnknownCell" false),
  ge (xisKey "InvalidTree" "InvalidValue") (.xis "InvalidTree" "InvalidValue" false),
  ge (xisKey "InvalidTree" "InvalidChange") (.xis "InvalidTree" "InvalidChange" false),
  ge (xisKey "InvalidTree" "InvalidUrgency") (.xis "InvalidTree" "InvalidUrgency" false),
  ge (xisKey "InvalidTree" "InvalidPass") (.xis "InvalidTree" "InvalidPass" false),
  ge (xisKey "InvalidTree" "InvalidLog") (.xis "InvalidTree" "InvalidLog" false),
  ge (xisKey "InvalidTree" "InvalidText") (.xis "InvalidTree" "InvalidText" false),
  ge (xisKey "InvalidTree" "TurnError") (.xis "InvalidTree" "TurnError" true),
  ge (xitKey "InvalidTree" "ValueError") (.xit "InvalidTree" "ValueError" true),
  ge (xisKey "UnknownNode" "InvalidTree") (.xis "UnknownNode" "InvalidTree" false),
  ge (xisKey "UnknownNode" "UnknownNode") (.xis "UnknownNode" "UnknownNode" true)]
def gl0_2 : List (Str × GV) := [ge (xisKey "UnknownNode" "InvalidOperation") (.xis "UnknownNode" "InvalidOperation" false),
  ge (xisKey "UnknownNode" "InvalidItems") (.xis "UnknownNode" "InvalidItems" false),
  ge (xisKey "UnknownNode" "InvalidWeights") (.xis "UnknownNode" "InvalidWeights" false),
  ge (xisKey "UnknownNode" "InvalidExpression") (.xis "UnknownNode" "InvalidExpression" false),
  ge (xisKey "UnknownNode" "InvalidPart") (.xis "UnknownNode" "InvalidPart" false),
  ge (xisKey "UnknownNode" "InvalidComponent") (.xis "UnknownNode" "InvalidComponent" false),
  ge (xisKey "UnknownNode" "InvalidApp") (.xis "UnknownNode" "InvalidApp" false),
  ge (xisKey "UnknownNode" "InvalidCells") (.xis "UnknownNode" "InvalidCells" false),
  ge (xisKey "UnknownNode" "UnknownInstance") (.xis "UnknownNode" "UnknownInstance" false),
  ge (xisKey "UnknownNode" "UnknownCell") (.xis "UnknownNode" "UnknownCell" false),
  ge (xisKey "UnknownNode" "InvalidValue") (.xis "UnknownNode" "InvalidValue" false),
  ge (xisKey "UnknownNode" "InvalidChange") (.xis "UnknownNode" "InvalidChange" false),
  ge (xisKey "UnknownNode" "InvalidUrgency") (.xis "UnknownNode" "InvalidUrgency" false),
  ge (xisKey "UnknownNode" "InvalidPass") (.xis "UnknownNode" "InvalidPass" false),
  ge (xisKey "UnknownNode" "InvalidLog") (.xis "UnknownNode" "InvalidLog" false),
  ge (xisKey "UnknownNode" "InvalidText") (.xis "UnknownNode" "InvalidText" false),
  ge (xisKey "UnknownNode" "TurnError") (.xis "UnknownNode" "TurnError" true),
  ge (xitKey "UnknownNode" "ValueError") (.xit "UnknownNode" "ValueError" true),
  ge (xisKey "InvalidOperation" "InvalidTree") (.xis "InvalidOperation" "InvalidTree" false),
  ge (xisKey "InvalidOperation" "UnknownNode") (.xis "InvalidOperation" "UnknownNode" false)]
def gl0_3 : List (Str × GV) := [ge (xisKey "InvalidOperation" "InvalidOperation") (.xis "InvalidOperation" "InvalidOperation" true),
  ge (xisKey "InvalidOperation" "InvalidItems") (.xis "InvalidOperation" "InvalidItems" false),
  ge (xisKey "InvalidOperation" "InvalidWeights") (.xis "InvalidOperation" "InvalidWeights" false),
  ge (xisKey "InvalidOperation" "InvalidExpression") (.xis "InvalidOperation" "InvalidExpression" false),
  ge (xisKey "InvalidOperation" "InvalidPart") (.xis "InvalidOperation" "InvalidPart" false),
  ge (xisKey "InvalidOperation" "InvalidComponent") (.xis "InvalidOperation" "InvalidComponent" false),
  ge (xisKey "InvalidOperation" "InvalidApp") (.xis "InvalidOperation" "InvalidApp" false),
  ge (xisKey "InvalidOperation" "InvalidCells") (.xis "InvalidOperation" "InvalidCells" false),
  ge (xisKey "InvalidOperation" "UnknownInstance") (.xis "InvalidOperation" "UnknownInstance" false),
  ge (xisKey "InvalidOperation" "UnknownCell") (.xis "InvalidOperation" "UnknownCell" false),
  ge (xisKey "InvalidOperation" "InvalidValue") (.xis "InvalidOperation" "InvalidValue" false),
  ge (xisKey "InvalidOperation" "InvalidChange") (.xis "InvalidOperation" "InvalidChange" false),
  ge (xisKey "InvalidOperation" "InvalidUrgency") (.xis "InvalidOperation" "InvalidUrgency" false),
  ge (xisKey "InvalidOperation" "InvalidPass") (.xis "InvalidOperation" "InvalidPass" false),
  ge (xisKey "InvalidOperation" "InvalidLog") (.xis "InvalidOperation" "InvalidLog" false),
  ge (xisKey "InvalidOperation" "InvalidText") (.xis "InvalidOperation" "InvalidText" false),
  ge (xisKey "InvalidOperation" "TurnError") (.xis "InvalidOperation" "TurnError" true),
  ge (xitKey "InvalidOperation" "ValueError") (.xit "InvalidOperation" "ValueError" true),
  ge (xisKey "InvalidItems" "InvalidTree") (.xis "InvalidItems" "InvalidTree" false),
  ge (xisKey "InvalidItems" "UnknownNode") (.xis "InvalidItems" "UnknownNode" false)]
def gl0_4 : List (Str × GV) := [ge (xisKey "InvalidItems" "InvalidOperation") (.xis "InvalidItems" "InvalidOperation" false),
  ge (xisKey "InvalidItems" "InvalidItems") (.xis "InvalidItems" "InvalidItems" true),
  ge (xisKey "InvalidItems" "InvalidWeights") (.xis "InvalidItems" "InvalidWeights" false),
  ge (xisKey "InvalidItems" "InvalidExpression") (.xis "InvalidItems" "InvalidExpression" false),
  ge (xisKey "InvalidItems" "InvalidPart") (.xis "InvalidItems" "InvalidPart" false),
  ge (xisKey "InvalidItems" "InvalidComponent") (.xis "InvalidItems" "InvalidComponent" false),
  ge (xisKey "InvalidItems" "InvalidApp") (.xis "InvalidItems" "InvalidApp" false),
  ge (xisKey "InvalidItems" "InvalidCells") (.xis "InvalidItems" "InvalidCells" false),
  ge (xisKey "InvalidItems" "UnknownInstance") (.xis "InvalidItems" "UnknownInstance" false),
  ge (xisKey "InvalidItems" "UnknownCell") (.xis "InvalidItems" "UnknownCell" false),
  ge (xisKey "InvalidItems" "InvalidValue") (.xis "InvalidItems" "InvalidValue" false),
  ge (xisKey "InvalidItems" "InvalidChange") (.xis "InvalidItems" "InvalidChange" false),
  ge (xisKey "InvalidItems" "InvalidUrgency") (.xis "InvalidItems" "InvalidUrgency" false),
  ge (xisKey "InvalidItems" "InvalidPass") (.xis "InvalidItems" "InvalidPass" false),
  ge (xisKey "InvalidItems" "InvalidLog") (.xis "InvalidItems" "InvalidLog" false),
  ge (xisKey "InvalidItems" "InvalidText") (.xis "InvalidItems" "InvalidText" false),
  ge (xisKey "InvalidItems" "TurnError") (.xis "InvalidItems" "TurnError" true),
  ge (xitKey "InvalidItems" "ValueError") (.xit "InvalidItems" "ValueError" true),
  ge (xisKey "InvalidWeights" "InvalidTree") (.xis "InvalidWeights" "InvalidTree" false),
  ge (xisKey "InvalidWeights" "UnknownNode") (.xis "InvalidWeights" "UnknownNode" false)]
def gl0_5 : List (Str × GV) := [ge (xisKey "InvalidWeights" "InvalidOperation") (.xis "InvalidWeights" "InvalidOperation" false),
  ge (xisKey "InvalidWeights" "InvalidItems") (.xis "InvalidWeights" "InvalidItems" false),
  ge (xisKey "InvalidWeights" "InvalidWeights") (.xis "InvalidWeights" "InvalidWeights" true),
  ge (xisKey "InvalidWeights" "InvalidExpression") (.xis "InvalidWeights" "InvalidExpression" false),
  ge (xisKey "InvalidWeights" "InvalidPart") (.xis "InvalidWeights" "InvalidPart" false),
  ge (xisKey "InvalidWeights" "InvalidComponent") (.xis "InvalidWeights" "InvalidComponent" false),
  ge (xisKey "InvalidWeights" "InvalidApp") (.xis "InvalidWeights" "InvalidApp" false),
  ge (xisKey "InvalidWeights" "InvalidCells") (.xis "InvalidWeights" "InvalidCells" false),
  ge (xisKey "InvalidWeights" "UnknownInstance") (.xis "InvalidWeights" "UnknownInstance" false),
  ge (xisKey "InvalidWeights" "UnknownCell") (.xis "InvalidWeights" "UnknownCell" false),
  ge (xisKey "InvalidWeights" "InvalidValue") (.xis "InvalidWeights" "InvalidValue" false),
  ge (xisKey "InvalidWeights" "InvalidChange") (.xis "InvalidWeights" "InvalidChange" false),
  ge (xisKey "InvalidWeights" "InvalidUrgency") (.xis "InvalidWeights" "InvalidUrgency" false),
  ge (xisKey "InvalidWeights" "InvalidPass") (.xis "InvalidWeights" "InvalidPass" false),
  ge (xisKey "InvalidWeights" "InvalidLog") (.xis "InvalidWeights" "InvalidLog" false),
  ge (xisKey "InvalidWeights" "InvalidText") (.xis "InvalidWeights" "InvalidText" false),
  ge (xisKey "InvalidWeights" "TurnError") (.xis "InvalidWeights" "TurnError" true),
  ge (xitKey "InvalidWeights" "ValueError") (.xit "InvalidWeights" "ValueError" true),
  ge (xisKey "InvalidExpression" "InvalidTree") (.xis "InvalidExpression" "InvalidTree" false),
  ge (xisKey "InvalidExpression" "UnknownNode") (.xis "InvalidExpression" "UnknownNode" false)]
def gl0_6 : List (Str × GV) := [ge (xisKey "InvalidExpression" "InvalidOperation") (.xis "InvalidExpression" "InvalidOperation" false),
  ge (xisKey "InvalidExpression" "InvalidItems") (.xis "InvalidExpression" "InvalidItems" false),
  ge (xisKey "InvalidExpression" "InvalidWeights") (.xis "InvalidExpression" "InvalidWeights" false),
  ge (xisKey "InvalidExpression" "InvalidExpression") (.xis "InvalidExpression" "InvalidExpression" true),
  ge (xisKey "InvalidExpression" "InvalidPart") (.xis "InvalidExpression" "InvalidPart" false),
  ge (xisKey "InvalidExpression" "InvalidComponent") (.xis "InvalidExpression" "InvalidComponent" false),
  ge (xisKey "InvalidExpression" "InvalidApp") (.xis "InvalidExpression" "InvalidApp" false),
  ge (xisKey "InvalidExpression" "InvalidCells") (.xis "InvalidExpression" "InvalidCells" false),
  ge (xisKey "InvalidExpression" "UnknownInstance") (.xis "InvalidExpression" "UnknownInstance" false),
  ge (xisKey "InvalidExpression" "UnknownCell") (.xis "InvalidExpression" "UnknownCell" false),
  ge (xisKey "InvalidExpression" "InvalidValue") (.xis "InvalidExpression" "InvalidValue" false),
  ge (xisKey "InvalidExpression" "InvalidChange") (.xis "InvalidExpression" "InvalidChange" false),
  ge (xisKey "InvalidExpression" "InvalidUrgency") (.xis "InvalidExpression" "InvalidUrgency" false),
  ge (xisKey "InvalidExpression" "InvalidPass") (.xis "InvalidExpression" "InvalidPass" false),
  ge (xisKey "InvalidExpression" "InvalidLog") (.xis "InvalidExpression" "InvalidLog" false),
  ge (xisKey "InvalidExpression" "InvalidText") (.xis "InvalidExpression" "InvalidText" false),
  ge (xisKey "InvalidExpression" "TurnError") (.xis "InvalidExpression" "TurnError" true),
  ge (xitKey "InvalidExpression" "ValueError") (.xit "InvalidExpression" "ValueError" true),
  ge (xisKey "InvalidPart" "InvalidTree") (.xis "InvalidPart" "InvalidTree" false),
  ge (xisKey "InvalidPart" "UnknownNode") (.xis "InvalidPart" "UnknownNode" false)]
def gl0_7 : List (Str × GV) := [ge (xisKey "InvalidPart" "InvalidOperation") (.xis "InvalidPart" "InvalidOperation" false),
  ge (xisKey "InvalidPart" "InvalidItems") (.xis "InvalidPart" "InvalidItems" false),
  ge (xisKey "InvalidPart" "InvalidWeights") (.xis "InvalidPart" "InvalidWeights" false),
  ge (xisKey "InvalidPart" "InvalidExpression") (.xis "InvalidPart" "InvalidExpression" false),
  ge (xisKey "InvalidPart" "InvalidPart") (.xis "InvalidPart" "InvalidPart" true),
  ge (xisKey "InvalidPart" "InvalidComponent") (.xis "InvalidPart" "InvalidComponent" false),
  ge (xisKey "InvalidPart" "InvalidApp") (.xis "InvalidPart" "InvalidApp" false),
  ge (xisKey "InvalidPart" "InvalidCells") (.xis "InvalidPart" "InvalidCells" false),
  ge (xisKey "InvalidPart" "UnknownInstance") (.xis "InvalidPart" "UnknownInstance" false),
  ge (xisKey "InvalidPart" "UnknownCell") (.xis "InvalidPart" "UnknownCell" false),
  ge (xisKey "InvalidPart" "InvalidValue") (.xis "InvalidPart" "InvalidValue" false),
  ge (xisKey "InvalidPart" "InvalidChange") (.xis "InvalidPart" "InvalidChange" false),
  ge (xisKey "InvalidPart" "InvalidUrgency") (.xis "InvalidPart" "InvalidUrgency" false),
  ge (xisKey "InvalidPart" "InvalidPass") (.xis "InvalidPart" "InvalidPass" false),
  ge (xisKey "InvalidPart" "InvalidLog") (.xis "InvalidPart" "InvalidLog" false),
  ge (xisKey "InvalidPart" "InvalidText") (.xis "InvalidPart" "InvalidText" false),
  ge (xisKey "InvalidPart" "TurnError") (.xis "InvalidPart" "TurnError" true),
  ge (xitKey "InvalidPart" "ValueError") (.xit "InvalidPart" "ValueError" true),
  ge (xisKey "InvalidComponent" "InvalidTree") (.xis "InvalidComponent" "InvalidTree" false),
  ge (xisKey "InvalidComponent" "UnknownNode") (.xis "InvalidComponent" "UnknownNode" false)]
def gl0_8 : List (Str × GV) := [ge (xisKey "InvalidComponent" "InvalidOperation") (.xis "InvalidComponent" "InvalidOperation" false),
  ge (xisKey "InvalidComponent" "InvalidItems") (.xis "InvalidComponent" "InvalidItems" false),
  ge (xisKey "InvalidComponent" "InvalidWeights") (.xis "InvalidComponent" "InvalidWeights" false),
  ge (xisKey "InvalidComponent" "InvalidExpression") (.xis "InvalidComponent" "InvalidExpression" false),
  ge (xisKey "InvalidComponent" "InvalidPart") (.xis "InvalidComponent" "InvalidPart" false),
  ge (xisKey "InvalidComponent" "InvalidComponent") (.xis "InvalidComponent" "InvalidComponent" true),
  ge (xisKey "InvalidComponent" "InvalidApp") (.xis "InvalidComponent" "InvalidApp" false),
  ge (xisKey "InvalidComponent" "InvalidCells") (.xis "InvalidComponent" "InvalidCells" false),
  ge (xisKey "InvalidComponent" "UnknownInstance") (.xis "InvalidComponent" "UnknownInstance" false),
  ge (xisKey "InvalidComponent" "UnknownCell") (.xis "InvalidComponent" "UnknownCell" false),
  ge (xisKey "InvalidComponent" "InvalidValue") (.xis "InvalidComponent" "InvalidValue" false),
  ge (xisKey "InvalidComponent" "InvalidChange") (.xis "InvalidComponent" "InvalidChange" false),
  ge (xisKey "InvalidComponent" "InvalidUrgency") (.xis "InvalidComponent" "InvalidUrgency" false),
  ge (xisKey "InvalidComponent" "InvalidPass") (.xis "InvalidComponent" "InvalidPass" false),
  ge (xisKey "InvalidComponent" "InvalidLog") (.xis "InvalidComponent" "InvalidLog" false),
  ge (xisKey "InvalidComponent" "InvalidText") (.xis "InvalidComponent" "InvalidText" false),
  ge (xisKey "InvalidComponent" "TurnError") (.xis "InvalidComponent" "TurnError" true),
  ge (xitKey "InvalidComponent" "ValueError") (.xit "InvalidComponent" "ValueError" true),
  ge (xisKey "InvalidApp" "InvalidTree") (.xis "InvalidApp" "InvalidTree" false),
  ge (xisKey "InvalidApp" "UnknownNode") (.xis "InvalidApp" "UnknownNode" false)]
def gl0_9 : List (Str × GV) := [ge (xisKey "InvalidApp" "InvalidOperation") (.xis "InvalidApp" "InvalidOperation" false),
  ge (xisKey "InvalidApp" "InvalidItems") (.xis "InvalidApp" "InvalidItems" false),
  ge (xisKey "InvalidApp" "InvalidWeights") (.xis "InvalidApp" "InvalidWeights" false),
  ge (xisKey "InvalidApp" "InvalidExpression") (.xis "InvalidApp" "InvalidExpression" false),
  ge (xisKey "InvalidApp" "InvalidPart") (.xis "InvalidApp" "InvalidPart" false),
  ge (xisKey "InvalidApp" "InvalidComponent") (.xis "InvalidApp" "InvalidComponent" false),
  ge (xisKey "InvalidApp" "InvalidApp") (.xis "InvalidApp" "InvalidApp" true),
  ge (xisKey "InvalidApp" "InvalidCells") (.xis "InvalidApp" "InvalidCells" false),
  ge (xisKey "InvalidApp" "UnknownInstance") (.xis "InvalidApp" "UnknownInstance" false),
  ge (xisKey "InvalidApp" "UnknownCell") (.xis "InvalidApp" "UnknownCell" false),
  ge (xisKey "InvalidApp" "InvalidValue") (.xis "InvalidApp" "InvalidValue" false),
  ge (xisKey "InvalidApp" "InvalidChange") (.xis "InvalidApp" "InvalidChange" false),
  ge (xisKey "InvalidApp" "InvalidUrgency") (.xis "InvalidApp" "InvalidUrgency" false),
  ge (xisKey "InvalidApp" "InvalidPass") (.xis "InvalidApp" "InvalidPass" false),
  ge (xisKey "InvalidApp" "InvalidLog") (.xis "InvalidApp" "InvalidLog" false),
  ge (xisKey "InvalidApp" "InvalidText") (.xis "InvalidApp" "InvalidText" false),
  ge (xisKey "InvalidApp" "TurnError") (.xis "InvalidApp" "TurnError" true),
  ge (xitKey "InvalidApp" "ValueError") (.xit "InvalidApp" "ValueError" true),
  ge (xisKey "InvalidCells" "InvalidTree") (.xis "InvalidCells" "InvalidTree" false),
  ge (xisKey "InvalidCells" "UnknownNode") (.xis "InvalidCells" "UnknownNode" false)]
def gl0_10 : List (Str × GV) := [ge (xisKey "InvalidCells" "InvalidOperation") (.xis "InvalidCells" "InvalidOperation" false),
  ge (xisKey "InvalidCells" "InvalidItems") (.xis "InvalidCells" "InvalidItems" false),
  ge (xisKey "InvalidCells" "InvalidWeights") (.xis "InvalidCells" "InvalidWeights" false),
  ge (xisKey "InvalidCells" "InvalidExpression") (.xis "InvalidCells" "InvalidExpression" false),
  ge (xisKey "InvalidCells" "InvalidPart") (.xis "InvalidCells" "InvalidPart" false),
  ge (xisKey "InvalidCells" "InvalidComponent") (.xis "InvalidCells" "InvalidComponent" false),
  ge (xisKey "InvalidCells" "InvalidApp") (.xis "InvalidCells" "InvalidApp" false),
  ge (xisKey "InvalidCells" "InvalidCells") (.xis "InvalidCells" "InvalidCells" true),
  ge (xisKey "InvalidCells" "UnknownInstance") (.xis "InvalidCells" "UnknownInstance" false),
  ge (xisKey "InvalidCells" "UnknownCell") (.xis "InvalidCells" "UnknownCell" false),
  ge (xisKey "InvalidCells" "InvalidValue") (.xis "InvalidCells" "InvalidValue" false),
  ge (xisKey "InvalidCells" "InvalidChange") (.xis "InvalidCells" "InvalidChange" false),
  ge (xisKey "InvalidCells" "InvalidUrgency") (.xis "InvalidCells" "InvalidUrgency" false),
  ge (xisKey "InvalidCells" "InvalidPass") (.xis "InvalidCells" "InvalidPass" false),
  ge (xisKey "InvalidCells" "InvalidLog") (.xis "InvalidCells" "InvalidLog" false),
  ge (xisKey "InvalidCells" "InvalidText") (.xis "InvalidCells" "InvalidText" false),
  ge (xisKey "InvalidCells" "TurnError") (.xis "InvalidCells" "TurnError" true),
  ge (xitKey "InvalidCells" "ValueError") (.xit "InvalidCells" "ValueError" true),
  ge (xisKey "UnknownInstance" "InvalidTree") (.xis "UnknownInstance" "InvalidTree" false),
  ge (xisKey "UnknownInstance" "UnknownNode") (.xis "UnknownInstance" "UnknownNode" false)]
def gl0_11 : List (Str × GV) := [ge (xisKey "UnknownInstance" "InvalidOperation") (.xis "UnknownInstance" "InvalidOperation" false),
  ge (xisKey "UnknownInstance" "InvalidItems") (.xis "UnknownInstance" "InvalidItems" false),
  ge (xisKey "UnknownInstance" "InvalidWeights") (.xis "UnknownInstance" "InvalidWeights" false),
  ge (xisKey "UnknownInstance" "InvalidExpression") (.xis "UnknownInstance" "InvalidExpression" false),
  ge (xisKey "UnknownInstance" "InvalidPart") (.xis "UnknownInstance" "InvalidPart" false),
  ge (xisKey "UnknownInstance" "InvalidComponent") (.xis "UnknownInstance" "InvalidComponent" false),
  ge (xisKey "UnknownInstance" "InvalidApp") (.xis "UnknownInstance" "InvalidApp" false),
  ge (xisKey "UnknownInstance" "InvalidCells") (.xis "UnknownInstance" "InvalidCells" false),
  ge (xisKey "UnknownInstance" "UnknownInstance") (.xis "UnknownInstance" "UnknownInstance" true),
  ge (xisKey "UnknownInstance" "UnknownCell") (.xis "UnknownInstance" "UnknownCell" false),
  ge (xisKey "UnknownInstance" "InvalidValue") (.xis "UnknownInstance" "InvalidValue" false),
  ge (xisKey "UnknownInstance" "InvalidChange") (.xis "UnknownInstance" "InvalidChange" false),
  ge (xisKey "UnknownInstance" "InvalidUrgency") (.xis "UnknownInstance" "InvalidUrgency" false),
  ge (xisKey "UnknownInstance" "InvalidPass") (.xis "UnknownInstance" "InvalidPass" false),
  ge (xisKey "UnknownInstance" "InvalidLog") (.xis "UnknownInstance" "InvalidLog" false),
  ge (xisKey "UnknownInstance" "InvalidText") (.xis "UnknownInstance" "InvalidText" false),
  ge (xisKey "UnknownInstance" "TurnError") (.xis "UnknownInstance" "TurnError" true),
  ge (xitKey "UnknownInstance" "ValueError") (.xit "UnknownInstance" "ValueError" true),
  ge (xisKey "UnknownCell" "InvalidTree") (.xis "UnknownCell" "InvalidTree" false),
  ge (xisKey "UnknownCell" "UnknownNode") (.xis "UnknownCell" "UnknownNode" false)]
def gl0_12 : List (Str × GV) := [ge (xisKey "UnknownCell" "InvalidOperation") (.xis "UnknownCell" "InvalidOperation" false),
  ge (xisKey "UnknownCell" "InvalidItems") (.xis "UnknownCell" "InvalidItems" false),
  ge (xisKey "UnknownCell" "InvalidWeights") (.xis "UnknownCell" "InvalidWeights" false),
  ge (xisKey "UnknownCell" "InvalidExpression") (.xis "UnknownCell" "InvalidExpression" false),
  ge (xisKey "UnknownCell" "InvalidPart") (.xis "UnknownCell" "InvalidPart" false),
  ge (xisKey "UnknownCell" "InvalidComponent") (.xis "UnknownCell" "InvalidComponent" false),
  ge (xisKey "UnknownCell" "InvalidApp") (.xis "UnknownCell" "InvalidApp" false),
  ge (xisKey "UnknownCell" "InvalidCells") (.xis "UnknownCell" "InvalidCells" false),
  ge (xisKey "UnknownCell" "UnknownInstance") (.xis "UnknownCell" "UnknownInstance" false),
  ge (xisKey "UnknownCell" "UnknownCell") (.xis "UnknownCell" "UnknownCell" true),
  ge (xisKey "UnknownCell" "InvalidValue") (.xis "UnknownCell" "InvalidValue" false),
  ge (xisKey "UnknownCell" "InvalidChange") (.xis "UnknownCell" "InvalidChange" false),
  ge (xisKey "UnknownCell" "InvalidUrgency") (.xis "UnknownCell" "InvalidUrgency" false),
  ge (xisKey "UnknownCell" "InvalidPass") (.xis "UnknownCell" "InvalidPass" false),
  ge (xisKey "UnknownCell" "InvalidLog") (.xis "UnknownCell" "InvalidLog" false),
  ge (xisKey "UnknownCell" "InvalidText") (.xis "UnknownCell" "InvalidText" false),
  ge (xisKey "UnknownCell" "TurnError") (.xis "UnknownCell" "TurnError" true),
  ge (xitKey "UnknownCell" "ValueError") (.xit "UnknownCell" "ValueError" true),
  ge (xisKey "InvalidValue" "InvalidTree") (.xis "InvalidValue" "InvalidTree" false),
  ge (xisKey "InvalidValue" "UnknownNode") (.xis "InvalidValue" "UnknownNode" false)]
def gl0_13 : List (Str × GV) := [ge (xisKey "InvalidValue" "InvalidOperation") (.xis "InvalidValue" "InvalidOperation" false),
  ge (xisKey "InvalidValue" "InvalidItems") (.xis "InvalidValue" "InvalidItems" false),
  ge (xisKey "InvalidValue" "InvalidWeights") (.xis "InvalidValue" "InvalidWeights" false),
  ge (xisKey "InvalidValue" "InvalidExpression") (.xis "InvalidValue" "InvalidExpression" false),
  ge (xisKey "InvalidValue" "InvalidPart") (.xis "InvalidValue" "InvalidPart" false),
  ge (xisKey "InvalidValue" "InvalidComponent") (.xis "InvalidValue" "InvalidComponent" false),
  ge (xisKey "InvalidValue" "InvalidApp") (.xis "InvalidValue" "InvalidApp" false),
  ge (xisKey "InvalidValue" "InvalidCells") (.xis "InvalidValue" "InvalidCells" false),
  ge (xisKey "InvalidValue" "UnknownInstance") (.xis "InvalidValue" "UnknownInstance" false),
  ge (xisKey "InvalidValue" "UnknownCell") (.xis "InvalidValue" "UnknownCell" false),
  ge (xisKey "InvalidValue" "InvalidValue") (.xis "InvalidValue" "InvalidValue" true),
  ge (xisKey "InvalidValue" "InvalidChange") (.xis "InvalidValue" "InvalidChange" false),
  ge (xisKey "InvalidValue" "InvalidUrgency") (.xis "InvalidValue" "InvalidUrgency" false),
  ge (xisKey "InvalidValue" "InvalidPass") (.xis "InvalidValue" "InvalidPass" false),
  ge (xisKey "InvalidValue" "InvalidLog") (.xis "InvalidValue" "InvalidLog" false),
  ge (xisKey "InvalidValue" "InvalidText") (.xis "InvalidValue" "InvalidText" false),
  ge (xisKey "InvalidValue" "TurnError") (.xis "InvalidValue" "TurnError" true),
  ge (xitKey "InvalidValue" "ValueError") (.xit "InvalidValue" "ValueError" true),
  ge (xisKey "InvalidChange" "InvalidTree") (.xis "InvalidChange" "InvalidTree" false),
  ge (xisKey "InvalidChange" "UnknownNode") (.xis "InvalidChange" "UnknownNode" false)]
def gl0_14 : List (Str × GV) := [ge (xisKey "InvalidChange" "InvalidOperation") (.xis "InvalidChange" "InvalidOperation" false),
  ge (xisKey "InvalidChange" "InvalidItems") (.xis "InvalidChange" "InvalidItems" false),
  ge (xisKey "InvalidChange" "InvalidWeights") (.xis "InvalidChange" "InvalidWeights" false),
  ge (xisKey "InvalidChange" "InvalidExpression") (.xis "InvalidChange" "InvalidExpression" false),
  ge (xisKey "InvalidChange" "InvalidPart") (.xis "InvalidChange" "InvalidPart" false),
  ge (xisKey "InvalidChange" "InvalidComponent") (.xis "InvalidChange" "InvalidComponent" false),
  ge (xisKey "InvalidChange" "InvalidApp") (.xis "InvalidChange" "InvalidApp" false),
  ge (xisKey "InvalidChange" "InvalidCells") (.xis "InvalidChange" "InvalidCells" false),
  ge (xisKey "InvalidChange" "UnknownInstance") (.xis "InvalidChange" "UnknownInstance" false),
  ge (xisKey "InvalidChange" "UnknownCell") (.xis "InvalidChange" "UnknownCell" false),
  ge (xisKey "InvalidChange" "InvalidValue") (.xis "InvalidChange" "InvalidValue" false),
  ge (xisKey "InvalidChange" "InvalidChange") (.xis "InvalidChange" "InvalidChange" true),
  ge (xisKey "InvalidChange" "InvalidUrgency") (.xis "InvalidChange" "InvalidUrgency" false),
  ge (xisKey "InvalidChange" "InvalidPass") (.xis "InvalidChange" "InvalidPass" false),
  ge (xisKey "InvalidChange" "InvalidLog") (.xis "InvalidChange" "InvalidLog" false),
  ge (xisKey "InvalidChange" "InvalidText") (.xis "InvalidChange" "InvalidText" false),
  ge (xisKey "InvalidChange" "TurnError") (.xis "InvalidChange" "TurnError" true),
  ge (xitKey "InvalidChange" "ValueError") (.xit "InvalidChange" "ValueError" true),
  ge (xisKey "InvalidUrgency" "InvalidTree") (.xis "InvalidUrgency" "InvalidTree" false),
  ge (xisKey "InvalidUrgency" "UnknownNode") (.xis "InvalidUrgency" "UnknownNode" false)]
def gl0_15 : List (Str × GV) := [ge (xisKey "InvalidUrgency" "InvalidOperation") (.xis "InvalidUrgency" "InvalidOperation" false),
  ge (xisKey "InvalidUrgency" "InvalidItems") (.xis "InvalidUrgency" "InvalidItems" false),
  ge (xisKey "InvalidUrgency" "InvalidWeights") (.xis "InvalidUrgency" "InvalidWeights" false),
  ge (xisKey "InvalidUrgency" "InvalidExpression") (.xis "InvalidUrgency" "InvalidExpression" false),
  ge (xisKey "InvalidUrgency" "InvalidPart") (.xis "InvalidUrgency" "InvalidPart" false),
  ge (xisKey "InvalidUrgency" "InvalidComponent") (.xis "InvalidUrgency" "InvalidComponent" false),
  ge (xisKey "InvalidUrgency" "InvalidApp") (.xis "InvalidUrgency" "InvalidApp" false),
  ge (xisKey "InvalidUrgency" "InvalidCells") (.xis "InvalidUrgency" "InvalidCells" false),
  ge (xisKey "InvalidUrgency" "UnknownInstance") (.xis "InvalidUrgency" "UnknownInstance" false),
  ge (xisKey "InvalidUrgency" "UnknownCell") (.xis "InvalidUrgency" "UnknownCell" false),
  ge (xisKey "InvalidUrgency" "InvalidValue") (.xis "InvalidUrgency" "InvalidValue" false),
  ge (xisKey "InvalidUrgency" "InvalidChange") (.xis "InvalidUrgency" "InvalidChange" false),
  ge (xisKey "InvalidUrgency" "InvalidUrgency") (.xis "InvalidUrgency" "InvalidUrgency" true),
  ge (xisKey "InvalidUrgency" "InvalidPass") (.xis "InvalidUrgency" "InvalidPass" false),
  ge (xisKey "InvalidUrgency" "InvalidLog") (.xis "InvalidUrgency" "InvalidLog" false),
  ge (xisKey "InvalidUrgency" "InvalidText") (.xis "InvalidUrgency" "InvalidText" false),
  ge (xisKey "InvalidUrgency" "TurnError") (.xis "InvalidUrgency" "TurnError" true),
  ge (xitKey "InvalidUrgency" "ValueError") (.xit "InvalidUrgency" "ValueError" true),
  ge (xisKey "InvalidPass" "InvalidTree") (.xis "InvalidPass" "InvalidTree" false),
  ge (xisKey "InvalidPass" "UnknownNode") (.xis "InvalidPass" "UnknownNode" false)]
def gl0_16 : List (Str × GV) := [ge (xisKey "InvalidPass" "InvalidOperation") (.xis "InvalidPass" "InvalidOperation" false),
  ge (xisKey "InvalidPass" "InvalidItems") (.xis "InvalidPass" "InvalidItems" false),
  ge (xisKey "InvalidPass" "InvalidWeights") (.xis "InvalidPass" "InvalidWeights" false),
  ge (xisKey "InvalidPass" "InvalidExpression") (.xis "InvalidPass" "InvalidExpression" false),
  ge (xisKey "InvalidPass" "InvalidPart") (.xis "InvalidPass" "InvalidPart" false),
  ge (xisKey "InvalidPass" "InvalidComponent") (.xis "InvalidPass" "InvalidComponent" false),
  ge (xisKey "InvalidPass" "InvalidApp") (.xis "InvalidPass" "InvalidApp" false),
  ge (xisKey "InvalidPass" "InvalidCells") (.xis "InvalidPass" "InvalidCells" false),
  ge (xisKey "InvalidPass" "UnknownInstance") (.xis "InvalidPass" "UnknownInstance" false),
  ge (xisKey "InvalidPass" "UnknownCell") (.xis "InvalidPass" "UnknownCell" false),
  ge (xisKey "InvalidPass" "InvalidValue") (.xis "InvalidPass" "InvalidValue" false),
  ge (xisKey "InvalidPass" "InvalidChange") (.xis "InvalidPass" "InvalidChange" false),
  ge (xisKey "InvalidPass" "InvalidUrgency") (.xis "InvalidPass" "InvalidUrgency" false),
  ge (xisKey "InvalidPass" "InvalidPass") (.xis "InvalidPass" "InvalidPass" true),
  ge (xisKey "InvalidPass" "InvalidLog") (.xis "InvalidPass" "InvalidLog" false),
  ge (xisKey "InvalidPass" "InvalidText") (.xis "InvalidPass" "InvalidText" false),
  ge (xisKey "InvalidPass" "TurnError") (.xis "InvalidPass" "TurnError" true),
  ge (xitKey "InvalidPass" "ValueError") (.xit "InvalidPass" "ValueError" true),
  ge (xisKey "InvalidLog" "InvalidTree") (.xis "InvalidLog" "InvalidTree" false),
  ge (xisKey "InvalidLog" "UnknownNode") (.xis "InvalidLog" "UnknownNode" false)]
def gl0_17 : List (Str × GV) := [ge (xisKey "InvalidLog" "InvalidOperation") (.xis "InvalidLog" "InvalidOperation" false),
  ge (xisKey "InvalidLog" "InvalidItems") (.xis "InvalidLog" "InvalidItems" false),
  ge (xisKey "InvalidLog" "InvalidWeights") (.xis "InvalidLog" "InvalidWeights" false),
  ge (xisKey "InvalidLog" "InvalidExpression") (.xis "InvalidLog" "InvalidExpression" false),
  ge (xisKey "InvalidLog" "InvalidPart") (.xis "InvalidLog" "InvalidPart" false),
  ge (xisKey "InvalidLog" "InvalidComponent") (.xis "InvalidLog" "InvalidComponent" false),
  ge (xisKey "InvalidLog" "InvalidApp") (.xis "InvalidLog" "InvalidApp" false),
  ge (xisKey "InvalidLog" "InvalidCells") (.xis "InvalidLog" "InvalidCells" false),
  ge (xisKey "InvalidLog" "UnknownInstance") (.xis "InvalidLog" "UnknownInstance" false),
  ge (xisKey "InvalidLog" "UnknownCell") (.xis "InvalidLog" "UnknownCell" false),
  ge (xisKey "InvalidLog" "InvalidValue") (.xis "InvalidLog" "InvalidValue" false),
  ge (xisKey "InvalidLog" "InvalidChange") (.xis "InvalidLog" "InvalidChange" false),
  ge (xisKey "InvalidLog" "InvalidUrgency") (.xis "InvalidLog" "InvalidUrgency" false),
  ge (xisKey "InvalidLog" "InvalidPass") (.xis "InvalidLog" "InvalidPass" false),
  ge (xisKey "InvalidLog" "InvalidLog") (.xis "InvalidLog" "InvalidLog" true),
  ge (xisKey "InvalidLog" "InvalidText") (.xis "InvalidLog" "InvalidText" false),
  ge (xisKey "InvalidLog" "TurnError") (.xis "InvalidLog" "TurnError" true),
  ge (xitKey "InvalidLog" "ValueError") (.xit "InvalidLog" "ValueError" true),
  ge (xisKey "InvalidText" "InvalidTree") (.xis "InvalidText" "InvalidTree" false),
  ge (xisKey "InvalidText" "UnknownNode") (.xis "InvalidText" "UnknownNode" false)]
def gl0_18 : List (Str × GV) := [ge (xisKey "InvalidText" "InvalidOperation") (.xis "InvalidText" "InvalidOperation" false),
  ge (xisKey "InvalidText" "InvalidItems") (.xis "InvalidText" "InvalidItems" false),
  ge (xisKey "InvalidText" "InvalidWeights") (.xis "InvalidText" "InvalidWeights" false),
  ge (xisKey "InvalidText" "InvalidExpression") (.xis "InvalidText" "InvalidExpression" false),
  ge (xisKey "InvalidText" "InvalidPart") (.xis "InvalidText" "InvalidPart" false),
  ge (xisKey "InvalidText" "InvalidComponent") (.xis "InvalidText" "InvalidComponent" false),
  ge (xisKey "InvalidText" "InvalidApp") (.xis "InvalidText" "InvalidApp" false),
  ge (xisKey "InvalidText" "InvalidCells") (.xis "InvalidText" "InvalidCells" false),
  ge (xisKey "InvalidText" "UnknownInstance") (.xis "InvalidText" "UnknownInstance" false),
  ge (xisKey "InvalidText" "UnknownCell") (.xis "InvalidText" "UnknownCell" false),
  ge (xisKey "InvalidText" "InvalidValue") (.xis "InvalidText" "InvalidValue" false),
  ge (xisKey "InvalidText" "InvalidChange") (.xis "InvalidText" "InvalidChange" false),
  ge (xisKey "InvalidText" "InvalidUrgency") (.xis "InvalidText" "InvalidUrgency" false),
  ge (xisKey "InvalidText" "InvalidPass") (.xis "InvalidText" "InvalidPass" false),
  ge (xisKey "InvalidText" "InvalidLog") (.xis "InvalidText" "InvalidLog" false),
  ge (xisKey "InvalidText" "InvalidText") (.xis "InvalidText" "InvalidText" true),
  ge (xisKey "InvalidText" "TurnError") (.xis "InvalidText" "TurnError" true),
  ge (xitKey "InvalidText" "ValueError") (.xit "InvalidText" "ValueError" true)]
def gl0 : List (Str × GV) := gl0_0 ++ (gl0_1 ++ (gl0_2 ++ (gl0_3 ++ (gl0_4 ++ (gl0_5 ++ (gl0_6 ++ (gl0_7 ++ (gl0_8 ++ (gl0_9 ++ (gl0_10 ++ (gl0_11 ++ (gl0_12 ++ (gl0_13 ++ (gl0_14 ++ (gl0_15 ++ (gl0_16 ++ (gl0_17 ++ (gl0_18))))))))))))))))))

/-! InvalidTree___init__: an error -/
abbrev s_InvalidTree___init__ : Stmt := mth 14 0
theorem sc_InvalidTree___init__ : FnScopeS ["self", "index"] ["self", "index"] (defScope s_InvalidTree___init__) := ⟨rfl, rfl, rfl, by decide +kernel, rfl, by decide +kernel, by decide +kernel, by decide +kernel, by kernel_rfl, by kernel_rfl⟩
def gl_err_InvalidTree : List (Str × GV) := [ge "InvalidTree" (.xc (some "index"))] ++ gl0

/-! UnknownNode___init__: an error -/
abbrev s_UnknownNode___init__ : Stmt := mth 15 0
theorem sc_UnknownNode___init__ : FnScopeS ["self", "name"] ["self", "name"] (defScope s_UnknownNode___init__) := ⟨rfl, rfl, rfl, by decide +kernel, rfl, by decide +kernel, by decide +kernel, by decide +kernel, by kernel_rfl, by kernel_rfl⟩
def gl_err_UnknownNode : List (Str × GV) := [ge "UnknownNode" (.xc (some "name"))] ++ gl_err_InvalidTree

/-! InvalidOperation___init__: an error -/
abbrev s_InvalidOperation___init__ : Stmt := mth 16 0
theorem sc_InvalidOperation___init__ : FnScopeS ["self", "index"] ["self", "index"] (defScope s_InvalidOperation___init__) := ⟨rfl, rfl, rfl, by decide +kernel, rfl, by decide +kernel, by decide +kernel, by decide +kernel, by kernel_rfl, by kernel_rfl⟩
def gl_err_InvalidOperation : List (Str × GV) := [ge "InvalidOperation" (.xc (some "index"))] ++ gl_err_UnknownNode

/-! InvalidItems___init__: an error -/
abbrev s_InvalidItems___init__ : Stmt := mth 17 0
theorem sc_InvalidItems___init__ : FnScopeS ["self"] ["self"] (defScope s_InvalidItems___init__) := ⟨rfl, rfl, rfl, by decide +kernel, rfl, by decide +kernel, by decide +kernel, by decide +kernel, by kernel_rfl, by kernel_rfl⟩
def gl_err_InvalidItems : List (Str × GV) := [ge "InvalidItems" (.xc none)] ++ gl_err_InvalidOperation

/-! InvalidWeights___init__: an error -/
abbrev s_InvalidWeights___init__ : Stmt := mth 18 0
theorem sc_InvalidWeights___init__ : FnScopeS ["self"] ["self"] (defScope s_InvalidWeights___init__) := ⟨rfl, rfl, rfl, by decide +kernel, rfl, by decide +kernel, by decide +kernel, by decide +kernel, by kernel_rfl, by kernel_rfl⟩
def gl_err_InvalidWeights : List (Str × GV) := [ge "InvalidWeights" (.xc none)] ++ gl_err_InvalidItems

/-! InvalidExpression___init__: an error -/
abbrev s_InvalidExpression___init__ : Stmt := mth 19 0
theorem sc_InvalidExpression___init__ : FnScopeS ["self"] ["self"] (defScope s_InvalidExpression___init__) := ⟨rfl, rfl, rfl, by decide +kernel, rfl, by decide +kernel, by decide +kernel, by decide +kernel, by kernel_rfl, by kernel_rfl⟩
def gl_err_InvalidExpression : List (Str × GV) := [ge "InvalidExpression" (.xc none)] ++ gl_err_InvalidWeights

/-! InvalidPart___init__: an error -/
abbrev s_InvalidPart___init__ : Stmt := mth 20 0
theorem sc_InvalidPart___init__ : FnScopeS ["self"] ["self"] (defScope s_InvalidPart___init__) := ⟨rfl, rfl, rfl, by decide +kernel, rfl, by decide +kernel, by decide +kernel, by decide +kernel, by kernel_rfl, by kernel_rfl⟩
def gl_err_InvalidPart : List (Str × GV) := [ge "InvalidPart" (.xc none)] ++ gl_err_InvalidExpression

/-! InvalidComponent___init__: an error -/
abbrev s_InvalidComponent___init__ : Stmt := mth 21 0
theorem sc_InvalidComponent___init__ : FnScopeS ["self"] ["self"] (defScope s_InvalidComponent___init__) := ⟨rfl, rfl, rfl, by decide +kernel, rfl, by decide +kernel, by decide +kernel, by decide +kernel, by kernel_rfl, by kernel_rfl⟩
def gl_err_InvalidComponent : List (Str × GV) := [ge "InvalidComponent" (.xc none)] ++ gl_err_InvalidPart

/-! InvalidApp___init__: an error -/
abbrev s_InvalidApp___init__ : Stmt := mth 22 0
theorem sc_InvalidApp___init__ : FnScopeS ["self", "name"] ["self", "name"] (defScope s_InvalidApp___init__) := ⟨rfl, rfl, rfl, by decide +kernel, rfl, by decide +kernel, by decide +kernel, by decide +kernel, by kernel_rfl, by kernel_rfl⟩
def gl_err_InvalidApp : List (Str × GV) := [ge "InvalidApp" (.xc (some "name"))] ++ gl_err_InvalidComponent

/-! InvalidCells___init__: an error -/
abbrev s_InvalidCells___init__ : Stmt := mth 23 0
theorem sc_InvalidCells___init__ : FnScopeS ["self"] ["self"] (defScope s_InvalidCells___init__) := ⟨rfl, rfl, rfl, by decide +kernel, rfl, by decide +kernel, by decide +kernel, by decide +kernel, by kernel_rfl, by kernel_rfl⟩
def gl_err_InvalidCells : List (Str × GV) := [ge "InvalidCells" (.xc none)] ++ gl_err_InvalidApp

/-! UnknownInstance___init__: an error -/
abbrev s_UnknownInstance___init__ : Stmt := mth 24 0
theorem sc_UnknownInstance___init__ : FnScopeS ["self", "name"] ["self", "name"] (defScope s_UnknownInstance___init__) := ⟨rfl, rfl, rfl, by decide +kernel, rfl, by decide +kernel, by decide +kernel, by decide +kernel, by kernel_rfl, by kernel_rfl⟩
def gl_err_UnknownInstance : List (Str × GV) := [ge "UnknownInstance" (.xc (some "name"))] ++ gl_err_InvalidCells

/-! UnknownCell___init__: an error -/
abbrev s_UnknownCell___init__ : Stmt := mth 25 0
theorem sc_UnknownCell___init__ : FnScopeS ["self", "name"] ["self", "name"] (defScope s_UnknownCell___init__) := ⟨rfl, rfl, rfl, by decide +kernel, rfl, by decide +kernel, by decide +kernel, by decide +kernel, by kernel_rfl, by kernel_rfl⟩
def gl_err_UnknownCell : List (Str × GV) := [ge "UnknownCell" (.xc (some "name"))] ++ gl_err_UnknownInstance

/-! InvalidValue___init__: an error -/
abbrev s_InvalidValue___init__ : Stmt := mth 26 0
theorem sc_InvalidValue___init__ : FnScopeS ["self"] ["self"] (defScope s_InvalidValue___init__) := ⟨rfl, rfl, rfl, by decide +kernel, rfl, by decide +kernel, by decide +kernel, by decide +kernel, by kernel_rfl, by kernel_rfl⟩
def gl_err_InvalidValue : List (Str × GV) := [ge "InvalidValue" (.xc none)] ++ gl_err_UnknownCell

/-! InvalidChange___init__: an error -/
abbrev s_InvalidChange___init__ : Stmt := mth 27 0
theorem sc_InvalidChange___init__ : FnScopeS ["self"] ["self"] (defScope s_InvalidChange___init__) := ⟨rfl, rfl, rfl, by decide +kernel, rfl, by decide +kernel, by decide +kernel, by decide +kernel, by kernel_rfl, by kernel_rfl⟩
def gl_err_InvalidChange : List (Str × GV) := [ge "InvalidChange" (.xc none)] ++ gl_err_InvalidValue

/-! InvalidUrgency___init__: an error -/
abbrev s_InvalidUrgency___init__ : Stmt := mth 28 0
theorem sc_InvalidUrgency___init__ : FnScopeS ["self"] ["self"] (defScope s_InvalidUrgency___init__) := ⟨rfl, rfl, rfl, by decide +kernel, rfl, by decide +kernel, by decide +kernel, by decide +kernel, by kernel_rfl, by kernel_rfl⟩
def gl_err_InvalidUrgency : List (Str × GV) := [ge "InvalidUrgency" (.xc none)] ++ gl_err_InvalidChange

/-! InvalidPass___init__: an error -/
abbrev s_InvalidPass___init__ : Stmt := mth 29 0
theorem sc_InvalidPass___init__ : FnScopeS ["self"] ["self"] (defScope s_InvalidPass___init__) := ⟨rfl, rfl, rfl, by decide +kernel, rfl, by decide +kernel, by decide +kernel, by decide +kernel, by kernel_rfl, by kernel_rfl⟩
def gl_err_InvalidPass : List (Str × GV) := [ge "InvalidPass" (.xc none)] ++ gl_err_InvalidUrgency

/-! InvalidLog___init__: an error -/
abbrev s_InvalidLog___init__ : Stmt := mth 30 0
theorem sc_InvalidLog___init__ : FnScopeS ["self", "index"] ["self", "index"] (defScope s_InvalidLog___init__) := ⟨rfl, rfl, rfl, by decide +kernel, rfl, by decide +kernel, by decide +kernel, by decide +kernel, by kernel_rfl, by kernel_rfl⟩
def gl_err_InvalidLog : List (Str × GV) := [ge "InvalidLog" (.xc (some "index"))] ++ gl_err_InvalidPass

/-! InvalidText___init__: an error -/
abbrev s_InvalidText___init__ : Stmt := mth 31 0
theorem sc_InvalidText___init__ : FnScopeS ["self", "line"] ["self", "line"] (defScope s_InvalidText___init__) := ⟨rfl, rfl, rfl, by decide +kernel, rfl, by decide +kernel, by decide +kernel, by decide +kernel, by kernel_rfl, by kernel_rfl⟩
def gl_err_InvalidText : List (Str × GV) := [ge "InvalidText" (.xc (some "line"))] ++ gl_err_InvalidLog

/-! _law_state -/
abbrev s__law_state : Stmt := top 33
abbrev N__law_state : List Str := (["_law_script", "_law_cell"] : List Str)
theorem sc__law_state : FnScope N__law_state ["_law_script"] (defScope s__law_state) := ⟨rfl, rfl, rfl, by decide +kernel, rfl, by decide +kernel, by decide +kernel⟩
def c__law_state : CS := sRet (frz (cLst (cCons (frz (cOr (cLc [1] (iSeq (frz (cSl (bVar 0) (oNo) (oIs (frz (cC (.int 63))))))) (gNm 1) (tYesD) (frz (cB absM (cCons (bVar 1) (cNil))))) (cLst (cCons (frz (cC (.int 7))) (cNil))))) (cCons (frz (cC (.int 0))) (cCons (frz (cC (.int 1))) (cNil))))))
theorem e__law_state : ssOf (recN (withZ rules7) 40) (mkSg N__law_state (defScope s__law_state) gl_err_InvalidText []) (defBody s__law_state) = some (c__law_state) := by kernel_rfl
def gl__law_state : List (Str × GV) := [ge ("_law_state") (.fn 1 begunM [])] ++ gl_err_InvalidText

/-! _law_plain -/
abbrev s__law_plain : Stmt := top 39
abbrev N__law_plain : List Str := (["_law_found"] : List Str)
theorem sc__law_plain : FnScope N__law_plain [] (defScope s__law_plain) := ⟨rfl, rfl, rfl, by decide +kernel, rfl, by decide +kernel, by decide +kernel⟩
def c__law_plain : CS := sSeq (sSet 0 false (cLst (cCons (frz (cTup (cCons (frz (cC (.int 3))) (cCons (frz (cMakeX "InvalidItems" none (cNil))) (cNil))))) (cCons (frz (cTup (cCons (frz (cC (.int 4))) (cCons (frz (cMakeX "InvalidWeights" none (cNil))) (cNil))))) (cCons (frz (cTup (cCons (frz (cC (.int 5))) (cCons (frz (cMakeX "InvalidExpression" none (cNil))) (cNil))))) (cCons (frz (cTup (cCons (frz (cC (.int 6))) (cCons (frz (cMakeX "InvalidPart" none (cNil))) (cNil))))) (cNil))))))) (sSeq (sSet 0 false (cBin .Add (bVar 0) (frz (cLst (cCons (frz (cTup (cCons (frz (cC (.int 7))) (cCons (frz (cMakeX "InvalidComponent" none (cNil))) (cNil))))) (cCons (frz (cTup (cCons (frz (cC (.int 9))) (cCons (frz (cMakeX "InvalidCells" none (cNil))) (cNil))))) (cCons (frz (cTup (cCons (frz (cC (.int 12))) (cCons (frz (cMakeX "InvalidValue" none (cNil))) (cNil))))) (cCons (frz (cTup (cCons (frz (cC (.int 13))) (cCons (frz (cMakeX "InvalidChange" none (cNil))) (cNil))))) (cNil))))))))) (sRet (frz (cBin .Add (bVar 0) (frz (cLst (cCons (frz (cTup (cCons (frz (cC (.int 14))) (cCons (frz (cMakeX "InvalidUrgency" none (cNil))) (cNil))))) (cCons (frz (cTup (cCons (frz (cC (.int 15))) (cCons (frz (cMakeX "InvalidPass" none (cNil))) (cNil))))) (cNil)))))))))
theorem e__law_plain : ssOf (recN (withZ rules7) 40) (mkSg N__law_plain (defScope s__law_plain) gl__law_state []) (defBody s__law_plain) = some (c__law_plain) := by kernel_rfl
def PLN : List D := [.tup [.int 3, .exn "InvalidItems" []], .tup [.int 4, .exn "InvalidWeights" []], .tup [.int 5, .exn "InvalidExpression" []], .tup [.int 6, .exn "InvalidPart" []], .tup [.int 7, .exn "InvalidComponent" []], .tup [.int 9, .exn "InvalidCells" []], .tup [.int 12, .exn "InvalidValue" []], .tup [.int 13, .exn "InvalidChange" []], .tup [.int 14, .exn "InvalidUrgency" []], .tup [.int 15, .exn "InvalidPass" []]]
def m__law_plain : List D → M D
  | [] => fun Q _ => Q (.lst PLN)
  | _ => fail

def gl__law_plain : List (Str × GV) := [ge ("_law_plain") (.fn 0 m__law_plain [])] ++ gl__law_state

/-! _law_marks -/
abbrev s__law_marks : Stmt := top 38
abbrev N__law_marks : List Str := (["_law_one", "_law_found"] : List Str)
theorem sc__law_marks : FnScope N__law_marks ["_law_one"] (defScope s__law_marks) := ⟨rfl, rfl, rfl, by decide +kernel, rfl, by decide +kernel, by decide +kernel⟩
def c__law_marks : CS := sSeq (sSet 1 false (cLst (cCons (frz (cIsx gl__law_plain (bVar 0) (.own "InvalidTree"))) (cCons (frz (cIsx gl__law_plain (bVar 0) (.own "UnknownNode"))) (cCons (frz (cIsx gl__law_plain (bVar 0) (.own "InvalidOperation"))) (cNil)))))) (sSeq (sSet 1 false (cBin .Add (bVar 1) (frz (cLst (cCons (frz (cIsx gl__law_plain (bVar 0) (.own "InvalidItems"))) (cCons (frz (cIsx gl__law_plain (bVar 0) (.own "InvalidWeights"))) (cCons (frz (cIsx gl__law_plain (bVar 0) (.own "InvalidExpression"))) (cNil)))))))) (sSeq (sSet 1 false (cBin .Add (bVar 1) (frz (cLst (cCons (frz (cIsx gl__law_plain (bVar 0) (.own "InvalidPart"))) (cCons (frz (cIsx gl__law_plain (bVar 0) (.own "InvalidComponent"))) (cCons (frz (cIsx gl__law_plain (bVar 0) (.own "InvalidApp"))) (cNil)))))))) (sSeq (sSet 1 false (cBin .Add (bVar 1) (frz (cLst (cCons (frz (cIsx gl__law_plain (bVar 0) (.own "InvalidCells"))) (cCons (frz (cIsx gl__law_plain (bVar 0) (.own "UnknownInstance"))) (cCons (frz (cIsx gl__law_plain (bVar 0) (.own "UnknownCell"))) (cNil)))))))) (sSeq (sSet 1 false (cBin .Add (bVar 1) (frz (cLst (cCons (frz (cIsx gl__law_plain (bVar 0) (.own "InvalidValue"))) (cCons (frz (cIsx gl__law_plain (bVar 0) (.own "InvalidChange"))) (cCons (frz (cIsx gl__law_plain (bVar 0) (.own "InvalidUrgency"))) (cNil)))))))) (sRet (frz (cBin .Add (bVar 1) (frz (cLst (cCons (frz (cIsx gl__law_plain (bVar 0) (.own "InvalidPass"))) (cCons (frz (cIsx gl__law_plain (bVar 0) (.own "InvalidLog"))) (cCons (frz (cIsx gl__law_plain (bVar 0) (.own "InvalidText"))) (cNil)))))))))))))
theorem e__law_marks : ssOf (recN (withZ rules7) 40) (mkSg N__law_marks (defScope s__law_marks) gl__law_plain []) (defBody s__law_marks) = some (c__law_marks) := by kernel_rfl
def m__law_marks : List D → M D
  | [.exn c _] => fun Q _ => c ∈ ECL ∧ Q (.lst (MKS c))
  | _ => fail

def gl__law_marks : List (Str × GV) := [ge ("_law_marks") (.fn 1 m__law_marks [])] ++ gl__law_plain

/-! _law_is_kind -/
abbrev s__law_is_kind : Stmt := top 41
abbrev N__law_is_kind : List Str := (["_law_place", "_law_one", "_law_marks_here"] : List Str)
theorem sc__law_is_kind : FnScope N__law_is_kind ["_law_place", "_law_one"] (defScope s__law_is_kind) := ⟨rfl, rfl, rfl, by decide +kernel, rfl, by decide +kernel, by decide +kernel⟩
def c__law_is_kind : CS := sSeq (sSet 2 false (cCall 1 m__law_marks (cCons (frz (cVar 1)) (cNil)))) (sRet (frz (cAnd (cIx (bVar 2) (bVar 0)) (cAnd (vT (tCm .Eq (frz (cCount (bVar 2) (frz (cC (.bl true))))) (frz (cC (.int 1))))) (cAnd (cIsx gl__law_marks (bVar 1) (.own "TurnError")) (cIsx gl__law_marks (bVar 1) (.blt "ValueError")))))))
theorem e__law_is_kind : ssOf (recN (withZ rules7) 40) (mkSg N__law_is_kind (defScope s__law_is_kind) gl__law_marks []) (defBody s__law_is_kind) = some (c__law_is_kind) := by kernel_rfl
def kindB (k : Int) (c : Str) : Bool := decide (0 ≤ k) && decide (ECL[k.toNat]? = some c)
def m__law_is_kind : List D → M D
  | [.int k, .exn c _] => fun Q _ => kindB k c = true ∧ Q (.bl true)
  | _ => fail

def gl__law_is_kind : List (Str × GV) := [ge ("_law_is_kind") (.fn 2 m__law_is_kind [])] ++ gl__law_marks

/-! _law_draw -/
abbrev s__law_draw : Stmt := top 34
abbrev N__law_draw : List Str := (["_law_draw_here", "_law_below", "_law_stock", "_law_at", "_law_cell", "?"] : List Str)
theorem sc__law_draw : FnScope N__law_draw ["_law_draw_here", "_law_below"] (defScope s__law_draw) := ⟨rfl, rfl, rfl, by decide +kernel, rfl, by decide +kernel, by decide +kernel⟩
def c__law_draw1 : CS := sSet 2 true (cIx (bVar 0) (frz (cC (.int 0))))
def c__law_draw2 : CS := sSeq (sSet 3 false (cBin .Mod (frz (cIx (bVar 0) (frz (cC (.int 1))))) (frz (cB lenM (cCons (bVar 2) (cNil)))))) (sSeq (sSet 4 false (cIx (bVar 2) (bVar 3))) (sSeq (sIf (tCm .GtE (bVar 4) (frz (cBin .Pow (frz (cC (.int 10))) (frz (cC (.int 18)))))) (sSeq (sPut 2 (frz (cBin .FloorDiv (bVar 4) (bVar 1))) (frz (cVar 3))) (sRet (frz (cBin .Mod (bVar 4) (bVar 1))))) (sNil)) (sSeq (sPut 0 (frz (cBin .Add (frz (cIx (bVar 0) (frz (cC (.int 1))))) (frz (cC (.int 1))))) (frz (cC (.int 1)))) (sSeq (sPut 0 (frz (cBin .Mod (frz (cBin .Add (frz (cBin .Add (frz (cBin .Add (frz (cBin .Mult (frz (cIx (bVar 0) (frz (cC (.int 2))))) (frz (cC (.int 48271))))) (bVar 4))) (frz (cBin .Mult (frz (cC (.int 7919))) (frz (cIx (bVar 0) (frz (cC (.int 1))))))))) (frz (cC (.int 12345))))) (frz (cC (.int 2147483647))))) (frz (cC (.int 2)))) (sRet (frz (cBin .Mod (frz (cBin .FloorDiv (frz (cBin .Mod (frz (cBin .Mult (frz (cIx (bVar 0) (frz (cC (.int 2))))) (frz (cIx (bVar 0) (frz (cC (.int 2))))))) (frz (cC (.int 2147483629))))) (frz (cC (.int 16))))) (bVar 1))))))))
theorem e__law_draw1 : ssOf (recN (withZ rules7) 40) (mkSg N__law_draw (defScope s__law_draw) gl__law_is_kind [0, 2]) ((defBody s__law_draw).take 1) = some c__law_draw1 := by kernel_rfl
theorem e__law_draw2 : ssOf (recN (withZ rules7) 40) (mkSg N__law_draw (defScope s__law_draw) gl__law_is_kind [0, 2]) ((defBody s__law_draw).drop 1) = some c__law_draw2 := by kernel_rfl
def gl__law_draw : List (Str × GV) := [ge ("_law_draw") (.fn 2 drawM [])] ++ gl__law_is_kind

/-! _law_pick -/
abbrev s__law_pick : Stmt := top 35
abbrev N__law_pick : List Str := (["_law_draw_here", "_law_some"] : List Str)
theorem sc__law_pick : FnScope N__law_pick ["_law_draw_here", "_law_some"] (defScope s__law_pick) := ⟨rfl, rfl, rfl, by decide +kernel, rfl, by decide +kernel, by decide +kernel⟩
def c__law_pick : CS := sRet (frz (cIx (bVar 1) (frz (cCall 2 drawM (cCons (frz (cVar 0)) (cCons (frz (cB lenM (cCons (bVar 1) (cNil)))) (cNil)))))))
theorem e__law_pick : ssOf (recN (withZ rules7) 40) (mkSg N__law_pick (defScope s__law_pick) gl__law_draw []) (defBody s__law_pick) = some (c__law_pick) := by kernel_rfl
def m__law_pick : List D → M D
  | [.gen, .lst ds] => fun Q _ => (ds ≠ [] ∧ ds.length ≤ 1000) ∧ ∀ d ∈ ds, Q d
  | _ => fail

def gl__law_pick : List (Str × GV) := [ge ("_law_pick") (.fn 2 m__law_pick [])] ++ gl__law_draw

/-! _law_thing -/
abbrev s__law_thing : Stmt := top 37
abbrev N__law_thing : List Str := (["_law_draw_here", "_law_some"] : List Str)
theorem sc__law_thing : FnScope N__law_thing ["_law_draw_here"] (defScope s__law_thing) := ⟨rfl, rfl, rfl, by decide +kernel, rfl, by decide +kernel, by decide +kernel⟩
def c__law_thing : CS := sSeq (sSet 1 false (cLst (cCons (frz (cC .non)) (cCons (frz (cC (.int 0))) (cCons (frz (cC (.int 1))) (cCons (frz (cNeg (frz (cC (.int 1))))) (cCons (frz (cC (.bl true))) (cCons (frz (cC (.bl false))) (cCons (frz (cC (.str ""))) (cCons (frz (cC (.str "a"))) (cCons (frz (cC (.str "abcdefgh"))) (cCons (frz (cC (.str "abcdefghi"))) (cCons (frz (cC (.str "kind"))) (cCons (frz (cC (.str "mark"))) (cCons (frz (cC (.str "self"))) (cCons (frz (cC (.str "open"))) (cCons (frz (cC (.str "input"))) (cNil)))))))))))))))))) (sSeq (sSet 1 false (cBin .Add (bVar 1) (frz (cLst (cCons (frz (cC (.str "A"))) (cCons (frz (cC (.str "a1"))) (cCons (frz (cC (.str "a b"))) (cCons (frz (cC (.str "x\ny"))) (cCons (frz (cBin .Mult (frz (cC (.str "z"))) (frz (cC (.int 60))))) (cCons (frz (cBin .Mult (frz (cC (.str "z"))) (frz (cC (.int 61))))) (cCons (frz (cBin .Pow (frz (cC (.int 10))) (frz (cC (.int 18))))) (cCons (frz (cBin .Add (frz (cBin .Pow (frz (cC (.int 10))) (frz (cC (.int 18))))) (frz (cC (.int 1))))) (cCons (frz (cBin .Sub (frz (cC (.int 0))) (frz (cBin .Pow (frz (cC (.int 10))) (frz (cC (.int 18))))))) (cNil)))))))))))))) (sSeq (sSet 1 false (cBin .Add (bVar 1) (frz (cLst (cCons (frz (cBin .Sub (frz (cBin .Sub (frz (cC (.int 0))) (frz (cBin .Pow (frz (cC (.int 10))) (frz (cC (.int 18))))))) (frz (cC (.int 1))))) (cCons (frz (cTup (cNil))) (cCons (frz (cTup (cCons (frz (cC (.int 1))) (cCons (frz (cC (.str "a"))) (cNil))))) (cCons (frz (cBin .Mult (frz (cTup (cCons (frz (cC .non)) (cNil)))) (frz (cC (.int 20))))) (cCons (frz (cBin .Mult (frz (cTup (cCons (frz (cC (.int 0))) (cNil)))) (frz (cC (.int 21))))) (cCons (frz (cTup (cCons (frz (cTup (cCons (frz (cC (.int 1))) (cNil)))) (cNil)))) (cCons (frz (cLst (cNil))) (cCons (frz (cLst (cCons (frz (cC (.int 1))) (cNil)))) (cCons (frz (cDct [])) (cCons (frz (cDct [(frz (cC (.str "a")), frz (cC (.int 1)))])) (cNil))))))))))))))) (sSeq (sSet 1 false (cBin .Add (bVar 1) (frz (cLst (cCons (frz (cTup (cCons (frz (cC (.bl true))) (cNil)))) (cCons (frz (cTup (cCons (frz (cC (.str "x\ny"))) (cNil)))) (cCons (frz (cTup (cCons (frz (cBin .Pow (frz (cC (.int 10))) (frz (cC (.int 19))))) (cNil)))) (cNil)))))))) (sRet (frz (cCall 2 m__law_pick (cCons (frz (cVar 0)) (cCons (frz (cVar 1)) (cNil)))))))))
theorem e__law_thing : ssOf (recN (withZ rules7) 40) (mkSg N__law_thing (defScope s__law_thing) gl__law_pick []) (defBody s__law_thing) = some (c__law_thing) := by kernel_rfl
def m__law_thing : List D → M D
  | [.gen] => fun Q _ => ∀ d, thB d = true → Q d
  | _ => fail

def gl__law_thing : List (Str × GV) := [ge ("_law_thing") (.fn 1 m__law_thing [])] ++ gl__law_pick

/-! _law_with -/
abbrev s__law_with : Stmt := top 40
abbrev N__law_with : List Str := (["_law_thing_here", "_law_found", "_law_rows", "_law_place", "_law_one"] : List Str)
theorem sc__law_with : FnScope N__law_with ["_law_thing_here"] (defScope s__law_with) := ⟨rfl, rfl, rfl, by decide +kernel, rfl, by decide +kernel, by decide +kernel⟩
def c__law_with : CS := sSeq (sSet 1 true (cLst (cCons (frz (cTup (cCons (frz (cC (.int 0))) (cCons (frz (cMakeX "InvalidTree" (some "index") (cCons (frz (cVar 0)) (cNil)))) (cNil))))) (cCons (frz (cTup (cCons (frz (cC (.int 0))) (cCons (frz (cMakeX "InvalidTree" (some "index") (cCons (frz (cVar 0)) (cNil)))) (cNil))))) (cCons (frz (cTup (cCons (frz (cC (.int 2))) (cCons (frz (cMakeX "InvalidOperation" (some "index") (cCons (frz (cVar 0)) (cNil)))) (cNil))))) (cNil)))))) (sSeq (sSet 1 true (cBin .Add (bVar 1) (frz (cLst (cCons (frz (cTup (cCons (frz (cC (.int 2))) (cCons (frz (cMakeX "InvalidOperation" (some "index") (cCons (frz (cVar 0)) (cNil)))) (cNil))))) (cCons (frz (cTup (cCons (frz (cC (.int 16))) (cCons (frz (cMakeX "InvalidLog" (some "index") (cCons (frz (cVar 0)) (cNil)))) (cNil))))) (cCons (frz (cTup (cCons (frz (cC (.int 16))) (cCons (frz (cMakeX "InvalidLog" (some "index") (cCons (frz (cVar 0)) (cNil)))) (cNil))))) (cNil)))))))) (sSeq (sFrz 1 (sSet 2 false (cLc [3, 4] (iSeq (frz (cVar 1))) (gTp 2 (gsCons (gNm 3) (gsCons (gNm 4) (gsNil)))) (tYesD) (frz (cTup (cCons (frz (cVar 3)) (cCons (frz (cVar 4)) (cCons (frz (cAtx gl__law_thing "index" (frz (cVar 4)))) (cNil))))))))) (sSeq (sSet 1 true (cLst (cCons (frz (cTup (cCons (frz (cC (.int 1))) (cCons (frz (cMakeX "UnknownNode" (some "name") (cCons (frz (cVar 0)) (cNil)))) (cNil))))) (cCons (frz (cTup (cCons (frz (cC (.int 1))) (cCons (frz (cMakeX "UnknownNode" (some "name") (cCons (frz (cVar 0)) (cNil)))) (cNil))))) (cCons (frz (cTup (cCons (frz (cC (.int 8))) (cCons (frz (cMakeX "InvalidApp" (some "name") (cCons (frz (cVar 0)) (cNil)))) (cNil))))) (cCons (frz (cTup (cCons (frz (cC (.int 8))) (cCons (frz (cMakeX "InvalidApp" (some "name") (cCons (frz (cVar 0)) (cNil)))) (cNil))))) (cNil))))))) (sSeq (sSet 1 true (cBin .Add (bVar 1) (frz (cLst (cCons (frz (cTup (cCons (frz (cC (.int 10))) (cCons (frz (cMakeX "UnknownInstance" (some "name") (cCons (frz (cVar 0)) (cNil)))) (cNil))))) (cCons (frz (cTup (cCons (frz (cC (.int 10))) (cCons (frz (cMakeX "UnknownInstance" (some "name") (cCons (frz (cVar 0)) (cNil)))) (cNil))))) (cCons (frz (cTup (cCons (frz (cC (.int 11))) (cCons (frz (cMakeX "UnknownCell" (some "name") (cCons (frz (cVar 0)) (cNil)))) (cNil))))) (cNil)))))))) (sSeq (sApp 1 (uOf (frz (cTup (cCons (frz (cC (.int 11))) (cCons (frz (cMakeX "UnknownCell" (some "name") (cCons (frz (cVar 0)) (cNil)))) (cNil))))))) (sSeq (sFrz 1 (sSet 2 false (cBin .Add (bVar 2) (frz (cLc [3, 4] (iSeq (frz (cVar 1))) (gTp 2 (gsCons (gNm 3) (gsCons (gNm 4) (gsNil)))) (tYesD) (frz (cTup (cCons (frz (cVar 3)) (cCons (frz (cVar 4)) (cCons (frz (cAtx gl__law_thing "name" (frz (cVar 4)))) (cNil))))))))))) (sSeq (sSet 1 true (cLst (cCons (frz (cTup (cCons (frz (cC (.int 17))) (cCons (frz (cMakeX "InvalidText" (some "line") (cCons (frz (cVar 0)) (cNil)))) (cNil))))) (cCons (frz (cTup (cCons (frz (cC (.int 17))) (cCons (frz (cMakeX "InvalidText" (some "line") (cCons (frz (cVar 0)) (cNil)))) (cNil))))) (cNil))))) (sFrz 1 (sRet (frz (cBin .Add (bVar 2) (frz (cLc [3, 4] (iSeq (frz (cVar 1))) (gTp 2 (gsCons (gNm 3) (gsCons (gNm 4) (gsNil)))) (tYesD) (frz (cTup (cCons (frz (cVar 3)) (cCons (frz (cVar 4)) (cCons (frz (cAtx gl__law_thing "line" (frz (cVar 4)))) (cNil)))))))))))))))))))
theorem e__law_with : ssOf (recN (withZ rules7) 40) (mkSg N__law_with (defScope s__law_with) gl__law_thing [1]) (defBody s__law_with) = some (c__law_with) := by kernel_rfl
def WTH (d : D) : List D := [.tup [.int 0, .exn "InvalidTree" [("index", d)], d], .tup [.int 0, .exn "InvalidTree" [("index", d)], d], .tup [.int 2, .exn "InvalidOperation" [("index", d)], d], .tup [.int 2, .exn "InvalidOperation" [("index", d)], d], .tup [.int 16, .exn "InvalidLog" [("index", d)], d], .tup [.int 16, .exn "InvalidLog" [("index", d)], d],
  .tup [.int 1, .exn "UnknownNode" [("name", d)], d], .tup [.int 1, .exn "UnknownNode" [("name", d)], d], .tup [.int 8, .exn "InvalidApp" [("name", d)], d], .tup [.int 8, .exn "InvalidApp" [("name", d)], d], .tup [.int 10, .exn "UnknownInstance" [("name", d)], d], .tup [.int 10, .exn "UnknownInstance" [("name", d)], d],
  .tup [.int 11, .exn "UnknownCell" [("name", d)], d], .tup [.int 11, .exn "UnknownCell" [("name", d)], d], .tup [.int 17, .exn "InvalidText" [("line", d)], d], .tup [.int 17, .exn "InvalidText" [("line", d)], d]]
def m__law_with : List D → M D
  | [d] => fun Q _ => Q (.lst (WTH d))
  | _ => fail

def gl__law_with : List (Str × GV) := [ge ("_law_with") (.fn 1 m__law_with [])] ++ gl__law_thing

/-! is_name -/
abbrev s_is_name : Stmt := top 7
abbrev N_is_name : List Str := (["value", "letter"] : List Str)
theorem sc_is_name : FnScope N_is_name ["value"] (defScope s_is_name) := ⟨rfl, rfl, rfl, by decide +kernel, rfl, by decide +kernel, by decide +kernel⟩
def c_is_name : CS := sSeq (sIf (tOr' (tNo (tTru (frz (cIsi (bVar 0) [.str])))) (tOr' (tNo (tCh .LtE .LtE (frz (cC (.int 1))) (frz (cB lenM (cCons (bVar 0) (cNil)))) (frz (cC (.int 8))))) (tCm .In (bVar 0) (frz (cC (.tup [.str "input", .str "kind", .str "mark", .str "open", .str "self"])))))) (sRet (frz (cC (.bl false)))) (sNil)) (sRet (frz (cB allM (cCons (frz (cLc [1] (iSeq (frz (cVar 0))) (gNm 1) (tYesD) (frz (vT (tCm .In (bVar 1) (frz (cC (.str "abcdefghijklmnopqrstuvwxyz")))))))) (cNil)))))
theorem e_is_name : ssOf (recN (withZ rules7) 40) (mkSg N_is_name (defScope s_is_name) gl__law_with []) (defBody s_is_name) = some (c_is_name) := by kernel_rfl
def m_is_name : List D → M D
  | [d] => fun Q _ => w1B d = true ∧ Q (.bl (nameB d))
  | _ => fail

def gl_is_name : List (Str × GV) := [ge ("is_name") (.fn 1 m_is_name [(0, ["value"], [0])])] ++ gl__law_with

/-! is_integer -/
abbrev s_is_integer : Stmt := top 8
abbrev N_is_integer : List Str := (["value"] : List Str)
theorem sc_is_integer : FnScope N_is_integer ["value"] (defScope s_is_integer) := ⟨rfl, rfl, rfl, by decide +kernel, rfl, by decide +kernel, by decide +kernel⟩
def c_is_integer : CS := sRet (frz (cAnd (cIsi (bVar 0) [.int]) (cNot (frz (cIsi (bVar 0) [.bl])))))
theorem e_is_integer : ssOf (recN (withZ rules7) 40) (mkSg N_is_integer (defScope s_is_integer) gl_is_name []) (defBody s_is_integer) = some (c_is_integer) := by kernel_rfl
def m_is_integer : List D → M D
  | [d] => fun Q _ => isSome' d = true ∧ Q (.bl (intB d))
  | _ => fail

def gl_is_integer : List (Str × GV) := [ge ("is_integer") (.fn 1 m_is_integer [])] ++ gl_is_name

/-! is_scalar -/
abbrev s_is_scalar : Stmt := top 9
abbrev N_is_scalar : List Str := (["value"] : List Str)
theorem sc_is_scalar : FnScope N_is_scalar ["value"] (defScope s_is_scalar) := ⟨rfl, rfl, rfl, by decide +kernel, rfl, by decide +kernel, by decide +kernel⟩
def c_is_scalar : CS := sSeq (sIf (tTru (frz (cIsi (bVar 0) [.str]))) (sRet (frz (cAnd (vT (tCm .LtE (frz (cB lenM (cCons (bVar 0) (cNil)))) (frz (cC (.int 60))))) (vT (tCm .NotIn (frz (cC (.str "\n"))) (bVar 0)))))) (sNil)) (sRet (frz (cOr (vT (tCm .Is (bVar 0) (frz (cC .non)))) (cAnd (cCall 1 m_is_integer (cCons (frz (cVar 0)) (cNil))) (vT (tCh .LtE .LtE (frz (cNeg (frz (cC (.int 1000000000000000000))))) (bVar 0) (frz (cC (.int 1000000000000000000)))))))))
theorem e_is_scalar : ssOf (recN (withZ rules7) 40) (mkSg N_is_scalar (defScope s_is_scalar) gl_is_integer []) (defBody s_is_scalar) = some (c_is_scalar) := by kernel_rfl
def m_is_scalar : List D → M D
  | [d] => fun Q _ => w1B d = true ∧ Q (.bl (scalB d))
  | _ => fail

def gl_is_scalar : List (Str × GV) := [ge ("is_scalar") (.fn 1 m_is_scalar [(0, ["value"], [0])])] ++ gl_is_integer

/-! is_value -/
abbrev s_is_value : Stmt := top 10
abbrev N_is_value : List Str := (["value", "one"] : List Str)
theorem sc_is_value : FnScope N_is_value ["value"] (defScope s_is_value) := ⟨rfl, rfl, rfl, by decide +kernel, rfl, by decide +kernel, by decide +kernel⟩
def c_is_value : CS := sSeq (sIf (tTru (frz (cIsi (bVar 0) [.tup]))) (sRet (frz (cAnd (vT (tCm .LtE (frz (cB lenM (cCons (bVar 0) (cNil)))) (frz (cC (.int 20))))) (cB allM (cCons (frz (cLc [1] (iSeq (frz (cVar 0))) (gNm 1) (tYesD) (frz (cCall 1 m_is_scalar (cCons (frz (cVar 1)) (cNil)))))) (cNil)))))) (sNil)) (sRet (frz (cCall 1 m_is_scalar (cCons (frz (cVar 0)) (cNil)))))
theorem e_is_value : ssOf (recN (withZ rules7) 40) (mkSg N_is_value (defScope s_is_value) gl_is_scalar []) (defBody s_is_value) = some (c_is_value) := by kernel_rfl
def m_is_value : List D → M D
  | [d] => fun Q _ => wB d = true ∧ Q (.bl (valB d))
  | _ => fail

def gl_is_value : List (Str × GV) := [ge ("is_value") (.fn 1 m_is_value [(0, ["value"], [0])])] ++ gl_is_scalar

/-! is_true -/
abbrev s_is_true : Stmt := top 11
abbrev N_is_true : List Str := (["value"] : List Str)
theorem sc_is_true : FnScope N_is_true ["value"] (defScope s_is_true) := ⟨rfl, rfl, rfl, by decide +kernel, rfl, by decide +kernel, by decide +kernel⟩
def c_is_true : CS := sRet (frz (cAnd (vT (tCm .IsNot (bVar 0) (frz (cC .non)))) (cAnd (vT (tCm .NotEq (bVar 0) (frz (cC (.int 0))))) (cAnd (vT (tCm .NotEq (bVar 0) (frz (cC (.str ""))))) (vT (tCm .NotEq (bVar 0) (frz (cTup (cNil)))))))))
theorem e_is_true : ssOf (recN (withZ rules7) 40) (mkSg N_is_true (defScope s_is_true) gl_is_value []) (defBody s_is_true) = some (c_is_true) := by kernel_rfl
def m_is_true : List D → M D
  | [d] => fun Q _ => wB d = true ∧ valB d = true ∧ Q (.bl (trueB d))
  | _ => fail

def gl_is_true : List (Str × GV) := [ge ("is_true") (.fn 1 m_is_true [(0, ["value"], [0])])] ++ gl_is_value

/-! _law_names_right -/
abbrev s__law_names_right : Stmt := top 42
abbrev N__law_names_right : List Str := (["_law_thing_here"] : List Str)
theorem sc__law_names_right : FnScope N__law_names_right ["_law_thing_here"] (defScope s__law_names_right) := ⟨rfl, rfl, rfl, by decide +kernel, rfl, by decide +kernel, by decide +kernel⟩
def c__law_names_right : CS := sSeq (sIf (tCm .NotEq (frz (cB reprM2 (cCons (frz (cLst (cCons (frz (cCallK 1 [0] m_is_name (cNil) (cCons (frz (cVar 0)) (cNil)))) (cCons (frz (cCallK 1 [0] m_is_value (cNil) (cCons (frz (cVar 0)) (cNil)))) (cNil))))) (cNil)))) (frz (cB reprM2 (cCons (frz (cLst (cCons (frz (cCall 1 m_is_name (cCons (frz (cVar 0)) (cNil)))) (cCons (frz (cCall 1 m_is_value (cCons (frz (cVar 0)) (cNil)))) (cNil))))) (cNil))))) (sRet (frz (cC (.bl false)))) (sNil)) (sSeq (sIf (tCm .NotEq (frz (cB reprM2 (cCons (frz (cCallK 1 [0] m_is_scalar (cNil) (cCons (frz (cVar 0)) (cNil)))) (cNil)))) (frz (cB reprM2 (cCons (frz (cCall 1 m_is_scalar (cCons (frz (cVar 0)) (cNil)))) (cNil))))) (sRet (frz (cC (.bl false)))) (sNil)) (sRet (frz (cOr (cNot (frz (cCall 1 m_is_value (cCons (frz (cVar 0)) (cNil))))) (vT (tCm .Eq (frz (cB reprM2 (cCons (frz (cCallK 1 [0] m_is_true (cNil) (cCons (frz (cVar 0)) (cNil)))) (cNil)))) (frz (cB reprM2 (cCons (frz (cCall 1 m_is_true (cCons (frz (cVar 0)) (cNil)))) (cNil))))))))))
theorem e__law_names_right : ssOf (recN (withZ rules7) 40) (mkSg N__law_names_right (defScope s__law_names_right) gl_is_true []) (defBody s__law_names_right) = some (c__law_names_right) := by kernel_rfl
def m__law_names_right : List D → M D
  | [d] => fun Q _ => wB d = true ∧ Q (.bl true)
  | _ => fail

def gl__law_names_right : List (Str × GV) := [ge ("_law_names_right") (.fn 1 m__law_names_right [])] ++ gl_is_true

/-! law -/
abbrev s_law : Stmt := top 43
abbrev N_law : List Str := (["_law_script", "_law_draw_here", "_law_place", "_law_one", "_law_turn", "_law_thing_here", "_law_told"] : List Str)
theorem sc_law : FnScope N_law ["_law_script"] (defScope s_law) := ⟨rfl, rfl, rfl, by decide +kernel, rfl, by decide +kernel, by decide +kernel⟩
def c_law : CS := sSeq (sSet 1 false (cCall 1 begunM (cCons (frz (cVar 0)) (cNil)))) (sSeq (sIf (tCm .NotEq (frz (cLc [2, 3] (iSeq (frz (cCall 0 m__law_plain (cNil)))) (gTp 2 (gsCons (gNm 2) (gsCons (gNm 3) (gsNil)))) (tNo (tTru (frz (cCall 2 m__law_is_kind (cCons (frz (cVar 2)) (cCons (frz (cVar 3)) (cNil))))))) (frz (cC (.int 1))))) (frz (cLst (cNil)))) (sRet (frz (cC (.bl false)))) (sNil)) (sSeq (sFor (iRng (cCons (frz (cC (.int 6))) (cNil))) (gNm 4) (sSeq (sSet 5 false (cCall 1 m__law_thing (cCons (frz (cVar 1)) (cNil)))) (sSeq (sFor (iSeq (frz (cCall 1 m__law_with (cCons (frz (cVar 5)) (cNil))))) (gTp 3 (gsCons (gNm 2) (gsCons (gNm 3) (gsCons (gNm 6) (gsNil))))) (sIf (tOr' (tNo (tTru (frz (cCall 2 m__law_is_kind (cCons (frz (cVar 2)) (cCons (frz (cVar 3)) (cNil))))))) (tCm .NotEq (frz (cB reprM2 (cCons (bVar 6) (cNil)))) (frz (cB reprM2 (cCons (bVar 5) (cNil)))))) (sRet (frz (cC (.bl false)))) (sNil))) (sIf (tNo (tTru (frz (cCall 1 m__law_names_right (cCons (frz (cVar 5)) (cNil)))))) (sRet (frz (cC (.bl false)))) (sNil))))) (sRet (frz (cC (.bl true))))))
theorem e_law : ssOf (recN (withZ rules7) 40) (mkSg N_law (defScope s_law) gl__law_names_right []) (defBody s_law) = some (c_law) := by kernel_rfl



abbrev PP : Program := PySem.Challenge.pw_viewturns_k07_errors_made
def kfs0 : List KF := [.free "abs",
  .free "all",
  .free "bool",
  .free "int",
  .free "isinstance",
  .free "len",
  .free "range",
  .free "repr",
  .free "str",
  .free "tuple",
  .con "LETTERS" (.str "abcdefghijklmnopqrstuvwxyz"),
  .con "LONGEST_NAME" (.int 8),
  .con "LONGEST_STRING" (.int 60),
  .con "MOST_SCALARS" (.int 20),
  .con "GREATEST" (.int 1000000000000000000),
  .tup "RESERVED" ["input", "kind", "mark", "open", "self"],
  .xb "TurnError",
  .free "ValueError",
  .xis "InvalidTree" "InvalidTree" true,
  .xis "InvalidTree" "UnknownNode" false,
  .xis "InvalidTree" "InvalidOperation" false,
  .xis "InvalidTree" "InvalidItems" false,
  .xis "InvalidTree" "InvalidWeights" false,
  .xis "InvalidTree" "InvalidExpression" false,
  .xis "InvalidTree" "InvalidPart" false,
  .xis "InvalidTree" "InvalidComponent" false,
  .xis "InvalidTree" "InvalidApp" false,
  .xis "InvalidTree" "InvalidCells" false,
  .xis "InvalidTree" "UnknownInstance" false,
  .xis "InvalidTree" "UnknownCell" false]
def kfs1 : List KF := [.xis "InvalidTree" "InvalidValue" false,
  .xis "InvalidTree" "InvalidChange" false,
  .xis "InvalidTree" "InvalidUrgency" false,
  .xis "InvalidTree" "InvalidPass" false,
  .xis "InvalidTree" "InvalidLog" false,
  .xis "InvalidTree" "InvalidText" false,
  .xis "InvalidTree" "TurnError" true,
  .xit "InvalidTree" "ValueError" true,
  .xis "UnknownNode" "InvalidTree" false,
  .xis "UnknownNode" "UnknownNode" true,
  .xis "UnknownNode" "InvalidOperation" false,
  .xis "UnknownNode" "InvalidItems" false,
  .xis "UnknownNode" "InvalidWeights" false,
  .xis "UnknownNode" "InvalidExpression" false,
  .xis "UnknownNode" "InvalidPart" false,
  .xis "UnknownNode" "InvalidComponent" false,
  .xis "UnknownNode" "InvalidApp" false,
  .xis "UnknownNode" "InvalidCells" false,
  .xis "UnknownNode" "UnknownInstance" false,
  .xis "UnknownNode" "UnknownCell" false,
  .xis "UnknownNode" "InvalidValue" false,
  .xis "UnknownNode" "InvalidChange" false,
  .xis "UnknownNode" "InvalidUrgency" false,
  .xis "UnknownNode" "InvalidPass" false,
  .xis "UnknownNode" "InvalidLog" false,
  .xis "UnknownNode" "InvalidText" false,
  .xis "UnknownNode" "TurnError" true,
  .xit "UnknownNode" "ValueError" true,
  .xis "InvalidOperation" "InvalidTree" false,
  .xis "InvalidOperation" "UnknownNode" false]
def kfs2 : List KF := [.xis "InvalidOperation" "InvalidOperation" true,
  .xis "InvalidOperation" "InvalidItems" false,
  .xis "InvalidOperation" "InvalidWeights" false,
  .xis "InvalidOperation" "InvalidExpression" false,
  .xis "InvalidOperation" "InvalidPart" false,
  .xis "InvalidOperation" "InvalidComponent" false,
  .xis "InvalidOperation" "InvalidApp" false,
  .xis "InvalidOperation" "InvalidCells" false,
  .xis "InvalidOperation" "UnknownInstance" false,
  .xis "InvalidOperation" "UnknownCell" false,
  .xis "InvalidOperation" "InvalidValue" false,
  .xis "InvalidOperation" "InvalidChange" false,
  .xis "InvalidOperation" "InvalidUrgency" false,
  .xis "InvalidOperation" "InvalidPass" false,
  .xis "InvalidOperation" "InvalidLog" false,
  .xis "InvalidOperation" "InvalidText" false,
  .xis "InvalidOperation" "TurnError" true,
  .xit "InvalidOperation" "ValueError" true,
  .xis "InvalidItems" "InvalidTree" false,
  .xis "InvalidItems" "UnknownNode" false,
  .xis "InvalidItems" "InvalidOperation" false,
  .xis "InvalidItems" "InvalidItems" true,
  .xis "InvalidItems" "InvalidWeights" false,
  .xis "InvalidItems" "InvalidExpression" false,
  .xis "InvalidItems" "InvalidPart" false,
  .xis "InvalidItems" "InvalidComponent" false,
  .xis "InvalidItems" "InvalidApp" false,
  .xis "InvalidItems" "InvalidCells" false,
  .xis "InvalidItems" "UnknownInstance" false,
  .xis "InvalidItems" "UnknownCell" false]
def kfs3 : List KF := [.xis "InvalidItems" "InvalidValue" false,
  .xis "InvalidItems" "InvalidChange" false,
  .xis "InvalidItems" "InvalidUrgency" false,
  .xis "InvalidItems" "InvalidPass" false,
  .xis "InvalidItems" "InvalidLog" false,
  .xis "InvalidItems" "InvalidText" false,
  .xis "InvalidItems" "TurnError" true,
  .xit "InvalidItems" "ValueError" true,
  .xis "InvalidWeights" "InvalidTree" false,
  .xis "InvalidWeights" "UnknownNode" false,
  .xis "InvalidWeights" "InvalidOperation" false,
  .xis "InvalidWeights" "InvalidItems" false,
  .xis "InvalidWeights" "InvalidWeights" true,
  .xis "InvalidWeights" "InvalidExpression" false,
  .xis "InvalidWeights" "InvalidPart" false,
  .xis "InvalidWeights" "InvalidComponent" false,
  .xis "InvalidWeights" "InvalidApp" false,
  .xis "InvalidWeights" "InvalidCells" false,
  .xis "InvalidWeights" "UnknownInstance" false,
  .xis "InvalidWeights" "UnknownCell" false,
  .xis "InvalidWeights" "InvalidValue" false,
  .xis "InvalidWeights" "InvalidChange" false,
  .xis "InvalidWeights" "InvalidUrgency" false,
  .xis "InvalidWeights" "InvalidPass" false,
  .xis "InvalidWeights" "InvalidLog" false,
  .xis "InvalidWeights" "InvalidText" false,
  .xis "InvalidWeights" "TurnError" true,
  .xit "InvalidWeights" "ValueError" true,
  .xis "InvalidExpression" "InvalidTree" false,
  .xis "InvalidExpression" "UnknownNode" false]
def kfs4 : List KF := [.xis "InvalidExpression" "InvalidOperation" false,
  .xis "InvalidExpression" "InvalidItems" false,
  .xis "InvalidExpression" "InvalidWeights" false,
  .xis "InvalidExpression" "InvalidExpression" true,
  .xis "InvalidExpression" "InvalidPart" false,
  .xis "InvalidExpression" "InvalidComponent" false,
  .xis "InvalidExpression" "InvalidApp" false,
  .xis "InvalidExpression" "InvalidCells" false,
  .xis "InvalidExpression" "UnknownInstance" false,
  .xis "InvalidExpression" "UnknownCell" false,
  .xis "InvalidExpression" "InvalidValue" false,
  .xis "InvalidExpression" "InvalidChange" false,
  .xis "InvalidExpression" "InvalidUrgency" false,
  .xis "InvalidExpression" "InvalidPass" false,
  .xis "InvalidExpression" "InvalidLog" false,
  .xis "InvalidExpression" "InvalidText" false,
  .xis "InvalidExpression" "TurnError" true,
  .xit "InvalidExpression" "ValueError" true,
  .xis "InvalidPart" "InvalidTree" false,
  .xis "InvalidPart" "UnknownNode" false,
  .xis "InvalidPart" "InvalidOperation" false,
  .xis "InvalidPart" "InvalidItems" false,
  .xis "InvalidPart" "InvalidWeights" false,
  .xis "InvalidPart" "InvalidExpression" false,
  .xis "InvalidPart" "InvalidPart" true,
  .xis "InvalidPart" "InvalidComponent" false,
  .xis "InvalidPart" "InvalidApp" false,
  .xis "InvalidPart" "InvalidCells" false,
  .xis "InvalidPart" "UnknownInstance" false,
  .xis "InvalidPart" "UnknownCell" false]
def kfs5 : List KF := [.xis "InvalidPart" "InvalidValue" false,
  .xis "InvalidPart" "InvalidChange" false,
  .xis "InvalidPart" "InvalidUrgency" false,
  .xis "InvalidPart" "InvalidPass" false,
  .xis "InvalidPart" "InvalidLog" false,
  .xis "InvalidPart" "InvalidText" false,
  .xis "InvalidPart" "TurnError" true,
  .xit "InvalidPart" "ValueError" true,
  .xis "InvalidComponent" "InvalidTree" false,
  .xis "InvalidComponent" "UnknownNode" false,
  .xis "InvalidComponent" "InvalidOperation" false,
  .xis "InvalidComponent" "InvalidItems" false,
  .xis "InvalidComponent" "InvalidWeights" false,
  .xis "InvalidComponent" "InvalidExpression" false,
  .xis "InvalidComponent" "InvalidPart" false,
  .xis "InvalidComponent" "InvalidComponent" true,
  .xis "InvalidComponent" "InvalidApp" false,
  .xis "InvalidComponent" "InvalidCells" false,
  .xis "InvalidComponent" "UnknownInstance" false,
  .xis "InvalidComponent" "UnknownCell" false,
  .xis "InvalidComponent" "InvalidValue" false,
  .xis "InvalidComponent" "InvalidChange" false,
  .xis "InvalidComponent" "InvalidUrgency" false,
  .xis "InvalidComponent" "InvalidPass" false,
  .xis "InvalidComponent" "InvalidLog" false,
  .xis "InvalidComponent" "InvalidText" false,
  .xis "InvalidComponent" "TurnError" true,
  .xit "InvalidComponent" "ValueError" true,
  .xis "InvalidApp" "InvalidTree" false,
  .xis "InvalidApp" "UnknownNode" false]
def kfs6 : List KF := [.xis "InvalidApp" "InvalidOperation" false,
  .xis "InvalidApp" "InvalidItems" false,
  .xis "InvalidApp" "InvalidWeights" false,
  .xis "InvalidApp" "InvalidExpression" false,
  .xis "InvalidApp" "InvalidPart" false,
  .xis "InvalidApp" "InvalidComponent" false,
  .xis "InvalidApp" "InvalidApp" true,
  .xis "InvalidApp" "InvalidCells" false,
  .xis "InvalidApp" "UnknownInstance" false,
  .xis "InvalidApp" "UnknownCell" false,
  .xis "InvalidApp" "InvalidValue" false,
  .xis "InvalidApp" "InvalidChange" false,
  .xis "InvalidApp" "InvalidUrgency" false,
  .xis "InvalidApp" "InvalidPass" false,
  .xis "InvalidApp" "InvalidLog" false,
  .xis "InvalidApp" "InvalidText" false,
  .xis "InvalidApp" "TurnError" true,
  .xit "InvalidApp" "ValueError" true,
  .xis "InvalidCells" "InvalidTree" false,
  .xis "InvalidCells" "UnknownNode" false,
  .xis "InvalidCells" "InvalidOperation" false,
  .xis "InvalidCells" "InvalidItems" false,
  .xis "InvalidCells" "InvalidWeights" false,
  .xis "InvalidCells" "InvalidExpression" false,
  .xis "InvalidCells" "InvalidPart" false,
  .xis "InvalidCells" "InvalidComponent" false,
  .xis "InvalidCells" "InvalidApp" false,
  .xis "InvalidCells" "InvalidCells" true,
  .xis "InvalidCells" "UnknownInstance" false,
  .xis "InvalidCells" "UnknownCell" false]
def kfs7 : List KF := [.xis "InvalidCells" "InvalidValue" false,
  .xis "InvalidCells" "InvalidChange" false,
  .xis "InvalidCells" "InvalidUrgency" false,
  .xis "InvalidCells" "InvalidPass" false,
  .xis "InvalidCells" "InvalidLog" false,
  .xis "InvalidCells" "InvalidText" false,
  .xis "InvalidCells" "TurnError" true,
  .xit "InvalidCells" "ValueError" true,
  .xis "UnknownInstance" "InvalidTree" false,
  .xis "UnknownInstance" "UnknownNode" false,
  .xis "UnknownInstance" "InvalidOperation" false,
  .xis "UnknownInstance" "InvalidItems" false,
  .xis "UnknownInstance" "InvalidWeights" false,
  .xis "UnknownInstance" "InvalidExpression" false,
  .xis "UnknownInstance" "InvalidPart" false,
  .xis "UnknownInstance" "InvalidComponent" false,
  .xis "UnknownInstance" "InvalidApp" false,
  .xis "UnknownInstance" "InvalidCells" false,
  .xis "UnknownInstance" "UnknownInstance" true,
  .xis "UnknownInstance" "UnknownCell" false,
  .xis "UnknownInstance" "InvalidValue" false,
  .xis "UnknownInstance" "InvalidChange" false,
  .xis "UnknownInstance" "InvalidUrgency" false,
  .xis "UnknownInstance" "InvalidPass" false,
  .xis "UnknownInstance" "InvalidLog" false,
  .xis "UnknownInstance" "InvalidText" false,
  .xis "UnknownInstance" "TurnError" true,
  .xit "UnknownInstance" "ValueError" true,
  .xis "UnknownCell" "InvalidTree" false,
  .xis "UnknownCell" "UnknownNode" false]
def kfs8 : List KF := [.xis "UnknownCell" "InvalidOperation" false,
  .xis "UnknownCell" "InvalidItems" false,
  .xis "UnknownCell" "InvalidWeights" false,
  .xis "UnknownCell" "InvalidExpression" false,
  .xis "UnknownCell" "InvalidPart" false,
  .xis "UnknownCell" "InvalidComponent" false,
  .xis "UnknownCell" "InvalidApp" false,
  .xis "UnknownCell" "InvalidCells" false,
  .xis "UnknownCell" "UnknownInstance" false,
  .xis "UnknownCell" "UnknownCell" true,
  .xis "UnknownCell" "InvalidValue" false,
  .xis "UnknownCell" "InvalidChange" false,
  .xis "UnknownCell" "InvalidUrgency" false,
  .xis "UnknownCell" "InvalidPass" false,
  .xis "UnknownCell" "InvalidLog" false,
  .xis "UnknownCell" "InvalidText" false,
  .xis "UnknownCell" "TurnError" true,
  .xit "UnknownCell" "ValueError" true,
  .xis "InvalidValue" "InvalidTree" false,
  .xis "InvalidValue" "UnknownNode" false,
  .xis "InvalidValue" "InvalidOperation" false,
  .xis "InvalidValue" "InvalidItems" false,
  .xis "InvalidValue" "InvalidWeights" false,
  .xis "InvalidValue" "InvalidExpression" false,
  .xis "InvalidValue" "InvalidPart" false,
  .xis "InvalidValue" "InvalidComponent" false,
  .xis "InvalidValue" "InvalidApp" false,
  .xis "InvalidValue" "InvalidCells" false,
  .xis "InvalidValue" "UnknownInstance" false,
  .xis "InvalidValue" "UnknownCell" false]
def kfs9 : List KF := [.xis "InvalidValue" "InvalidValue" true,
  .xis "InvalidValue" "InvalidChange" false,
  .xis "InvalidValue" "InvalidUrgency" false,
  .xis "InvalidValue" "InvalidPass" false,
  .xis "InvalidValue" "InvalidLog" false,
  .xis "InvalidValue" "InvalidText" false,
  .xis "InvalidValue" "TurnError" true,
  .xit "InvalidValue" "ValueError" true,
  .xis "InvalidChange" "InvalidTree" false,
  .xis "InvalidChange" "UnknownNode" false,
  .xis "InvalidChange" "InvalidOperation" false,
  .xis "InvalidChange" "InvalidItems" false,
  .xis "InvalidChange" "InvalidWeights" false,
  .xis "InvalidChange" "InvalidExpression" false,
  .xis "InvalidChange" "InvalidPart" false,
  .xis "InvalidChange" "InvalidComponent" false,
  .xis "InvalidChange" "InvalidApp" false,
  .xis "InvalidChange" "InvalidCells" false,
  .xis "InvalidChange" "UnknownInstance" false,
  .xis "InvalidChange" "UnknownCell" false,
  .xis "InvalidChange" "InvalidValue" false,
  .xis "InvalidChange" "InvalidChange" true,
  .xis "InvalidChange" "InvalidUrgency" false,
  .xis "InvalidChange" "InvalidPass" false,
  .xis "InvalidChange" "InvalidLog" false,
  .xis "InvalidChange" "InvalidText" false,
  .xis "InvalidChange" "TurnError" true,
  .xit "InvalidChange" "ValueError" true,
  .xis "InvalidUrgency" "InvalidTree" false,
  .xis "InvalidUrgency" "UnknownNode" false]
def kfs10 : List KF := [.xis "InvalidUrgency" "InvalidOperation" false,
  .xis "InvalidUrgency" "InvalidItems" false,
  .xis "InvalidUrgency" "InvalidWeights" false,
  .xis "InvalidUrgency" "InvalidExpression" false,
  .xis "InvalidUrgency" "InvalidPart" false,
  .xis "InvalidUrgency" "InvalidComponent" false,
  .xis "InvalidUrgency" "InvalidApp" false,
  .xis "InvalidUrgency" "InvalidCells" false,
  .xis "InvalidUrgency" "UnknownInstance" false,
  .xis "InvalidUrgency" "UnknownCell" false,
  .xis "InvalidUrgency" "InvalidValue" false,
  .xis "InvalidUrgency" "InvalidChange" false,
  .xis "InvalidUrgency" "InvalidUrgency" true,
  .xis "InvalidUrgency" "InvalidPass" false,
  .xis "InvalidUrgency" "InvalidLog" false,
  .xis "InvalidUrgency" "InvalidText" false,
  .xis "InvalidUrgency" "TurnError" true,
  .xit "InvalidUrgency" "ValueError" true,
  .xis "InvalidPass" "InvalidTree" false,
  .xis "InvalidPass" "UnknownNode" false,
  .xis "InvalidPass" "InvalidOperation" false,
  .xis "InvalidPass" "InvalidItems" false,
  .xis "InvalidPass" "InvalidWeights" false,
  .xis "InvalidPass" "InvalidExpression" false,
  .xis "InvalidPass" "InvalidPart" false,
  .xis "InvalidPass" "InvalidComponent" false,
  .xis "InvalidPass" "InvalidApp" false,
  .xis "InvalidPass" "InvalidCells" false,
  .xis "InvalidPass" "UnknownInstance" false,
  .xis "InvalidPass" "UnknownCell" false]
def kfs11 : List KF := [.xis "InvalidPass" "InvalidValue" false,
  .xis "InvalidPass" "InvalidChange" false,
  .xis "InvalidPass" "InvalidUrgency" false,
  .xis "InvalidPass" "InvalidPass" true,
  .xis "InvalidPass" "InvalidLog" false,
  .xis "InvalidPass" "InvalidText" false,
  .xis "InvalidPass" "TurnError" true,
  .xit "InvalidPass" "ValueError" true,
  .xis "InvalidLog" "InvalidTree" false,
  .xis "InvalidLog" "UnknownNode" false,
  .xis "InvalidLog" "InvalidOperation" false,
  .xis "InvalidLog" "InvalidItems" false,
  .xis "InvalidLog" "InvalidWeights" false,
  .xis "InvalidLog" "InvalidExpression" false,
  .xis "InvalidLog" "InvalidPart" false,
  .xis "InvalidLog" "InvalidComponent" false,
  .xis "InvalidLog" "InvalidApp" false,
  .xis "InvalidLog" "InvalidCells" false,
  .xis "InvalidLog" "UnknownInstance" false,
  .xis "InvalidLog" "UnknownCell" false,
  .xis "InvalidLog" "InvalidValue" false,
  .xis "InvalidLog" "InvalidChange" false,
  .xis "InvalidLog" "InvalidUrgency" false,
  .xis "InvalidLog" "InvalidPass" false,
  .xis "InvalidLog" "InvalidLog" true,
  .xis "InvalidLog" "InvalidText" false,
  .xis "InvalidLog" "TurnError" true,
  .xit "InvalidLog" "ValueError" true,
  .xis "InvalidText" "InvalidTree" false,
  .xis "InvalidText" "UnknownNode" false]
def kfs12 : List KF := [.xis "InvalidText" "InvalidOperation" false,
  .xis "InvalidText" "InvalidItems" false,
  .xis "InvalidText" "InvalidWeights" false,
  .xis "InvalidText" "InvalidExpression" false,
  .xis "InvalidText" "InvalidPart" false,
  .xis "InvalidText" "InvalidComponent" false,
  .xis "InvalidText" "InvalidApp" false,
  .xis "InvalidText" "InvalidCells" false,
  .xis "InvalidText" "UnknownInstance" false,
  .xis "InvalidText" "UnknownCell" false,
  .xis "InvalidText" "InvalidValue" false,
  .xis "InvalidText" "InvalidChange" false,
  .xis "InvalidText" "InvalidUrgency" false,
  .xis "InvalidText" "InvalidPass" false,
  .xis "InvalidText" "InvalidLog" false,
  .xis "InvalidText" "InvalidText" true,
  .xis "InvalidText" "TurnError" true,
  .xit "InvalidText" "ValueError" true,
  .free "super",
  .any,
  .xc "InvalidTree" (some "index") (.m "InvalidTree" "__init__"),
  .xc "UnknownNode" (some "name") (.m "UnknownNode" "__init__"),
  .xc "InvalidOperation" (some "index") (.m "InvalidOperation" "__init__"),
  .xc "InvalidItems" none (.m "InvalidItems" "__init__"),
  .xc "InvalidWeights" none (.m "InvalidWeights" "__init__"),
  .xc "InvalidExpression" none (.m "InvalidExpression" "__init__"),
  .xc "InvalidPart" none (.m "InvalidPart" "__init__"),
  .xc "InvalidComponent" none (.m "InvalidComponent" "__init__"),
  .xc "InvalidApp" (some "name") (.m "InvalidApp" "__init__"),
  .xc "InvalidCells" none (.m "InvalidCells" "__init__")]
def kfs13 : List KF := [.xc "UnknownInstance" (some "name") (.m "UnknownInstance" "__init__"),
  .xc "UnknownCell" (some "name") (.m "UnknownCell" "__init__"),
  .xc "InvalidValue" none (.m "InvalidValue" "__init__"),
  .xc "InvalidChange" none (.m "InvalidChange" "__init__"),
  .xc "InvalidUrgency" none (.m "InvalidUrgency" "__init__"),
  .xc "InvalidPass" none (.m "InvalidPass" "__init__"),
  .xc "InvalidLog" (some "index") (.m "InvalidLog" "__init__"),
  .xc "InvalidText" (some "line") (.m "InvalidText" "__init__"),
  .glo "_law_state",
  .glo "_law_plain",
  .glo "_law_marks",
  .glo "_law_is_kind",
  .glo "_law_draw",
  .glo "_law_pick",
  .glo "_law_thing",
  .glo "_law_with",
  .glo "is_name",
  .glo "is_integer",
  .glo "is_scalar",
  .glo "is_value",
  .glo "is_true",
  .glo "_law_names_right",
  .glo "law"]
def kfs : List KF := kfs0 ++ (kfs1 ++ (kfs2 ++ (kfs3 ++ (kfs4 ++ (kfs5 ++ (kfs6 ++ (kfs7 ++ (kfs8 ++ (kfs9 ++ (kfs10 ++ (kfs11 ++ (kfs12 ++ (kfs13)))))))))))))
def fds0 : List FD := [⟨(.m "InvalidTree" "__init__"), "__init__", "InvalidTree.__init__", s_InvalidTree___init__, some "InvalidTree"⟩,
  ⟨(.m "UnknownNode" "__init__"), "__init__", "UnknownNode.__init__", s_UnknownNode___init__, some "UnknownNode"⟩,
  ⟨(.m "InvalidOperation" "__init__"), "__init__", "InvalidOperation.__init__", s_InvalidOperation___init__, some "InvalidOperation"⟩,
  ⟨(.m "InvalidItems" "__init__"), "__init__", "InvalidItems.__init__", s_InvalidItems___init__, some "InvalidItems"⟩,
  ⟨(.m "InvalidWeights" "__init__"), "__init__", "InvalidWeights.__init__", s_InvalidWeights___init__, some "InvalidWeights"⟩,
  ⟨(.m "InvalidExpression" "__init__"), "__init__", "InvalidExpression.__init__", s_InvalidExpression___init__, some "InvalidExpression"⟩,
  ⟨(.m "InvalidPart" "__init__"), "__init__", "InvalidPart.__init__", s_InvalidPart___init__, some "InvalidPart"⟩,
  ⟨(.m "InvalidComponent" "__init__"), "__init__", "InvalidComponent.__init__", s_InvalidComponent___init__, some "InvalidComponent"⟩,
  ⟨(.m "InvalidApp" "__init__"), "__init__", "InvalidApp.__init__", s_InvalidApp___init__, some "InvalidApp"⟩,
  ⟨(.m "InvalidCells" "__init__"), "__init__", "InvalidCells.__init__", s_InvalidCells___init__, some "InvalidCells"⟩,
  ⟨(.m "UnknownInstance" "__init__"), "__init__", "UnknownInstance.__init__", s_UnknownInstance___init__, some "UnknownInstance"⟩,
  ⟨(.m "UnknownCell" "__init__"), "__init__", "UnknownCell.__init__", s_UnknownCell___init__, some "UnknownCell"⟩,
  ⟨(.m "InvalidValue" "__init__"), "__init__", "InvalidValue.__init__", s_InvalidValue___init__, some "InvalidValue"⟩,
  ⟨(.m "InvalidChange" "__init__"), "__init__", "InvalidChange.__init__", s_InvalidChange___init__, some "InvalidChange"⟩,
  ⟨(.m "InvalidUrgency" "__init__"), "__init__", "InvalidUrgency.__init__", s_InvalidUrgency___init__, some "InvalidUrgency"⟩,
  ⟨(.m "InvalidPass" "__init__"), "__init__", "InvalidPass.__init__", s_InvalidPass___init__, some "InvalidPass"⟩,
  ⟨(.m "InvalidLog" "__init__"), "__init__", "InvalidLog.__init__", s_InvalidLog___init__, some "InvalidLog"⟩,
  ⟨(.m "InvalidText" "__init__"), "__init__", "InvalidText.__init__", s_InvalidText___init__, some "InvalidText"⟩,
  ⟨(.g "_law_state"), "_law_state", "_law_state", s__law_state, none⟩,
  ⟨(.g "_law_plain"), "_law_plain", "_law_plain", s__law_plain, none⟩,
  ⟨(.g "_law_marks"), "_law_marks", "_law_marks", s__law_marks, none⟩,
  ⟨(.g "_law_is_kind"), "_law_is_kind", "_law_is_kind", s__law_is_kind, none⟩,
  ⟨(.g "_law_draw"), "_law_draw", "_law_draw", s__law_draw, none⟩,
  ⟨(.g "_law_pick"), "_law_pick", "_law_pick", s__law_pick, none⟩,
  ⟨(.g "_law_thing"), "_law_thing", "_law_thing", s__law_thing, none⟩,
  ⟨(.g "_law_with"), "_law_with", "_law_with", s__law_with, none⟩,
  ⟨(.g "is_name"), "is_name", "is_name", s_is_name, none⟩,
  ⟨(.g "is_integer"), "is_integer", "is_integer", s_is_integer, none⟩,
  ⟨(.g "is_scalar"), "is_scalar", "is_scalar", s_is_scalar, none⟩,
  ⟨(.g "is_value"), "is_value", "is_value", s_is_value, none⟩]
def fds1 : List FD := [⟨(.g "is_true"), "is_true", "is_true", s_is_true, none⟩,
  ⟨(.g "_law_names_right"), "_law_names_right", "_law_names_right", s__law_names_right, none⟩,
  ⟨(.g "law"), "law", "law", s_law, none⟩]
def fds : List FD := fds0 ++ (fds1)
def loose0 : List Str := ["LETTERS",
  "LONGEST_NAME",
  "LONGEST_STRING",
  "MOST_SCALARS",
  "GREATEST",
  "RESERVED",
  "is_name",
  "is_integer",
  "is_scalar",
  "is_value",
  "is_true",
  "TurnError",
  "InvalidTree",
  "UnknownNode",
  "InvalidOperation",
  "InvalidItems",
  "InvalidWeights",
  "InvalidExpression",
  "InvalidPart",
  "InvalidComponent",
  "InvalidApp",
  "InvalidCells",
  "UnknownInstance",
  "UnknownCell",
  "InvalidValue",
  "InvalidChange",
  "InvalidUrgency",
  "InvalidPass",
  "InvalidLog",
  "InvalidText"]
def loose1 : List Str := ["_law_state",
  "_law_draw",
  "_law_pick",
  "_law_mixed",
  "_law_thing",
  "_law_marks",
  "_law_plain",
  "_law_with",
  "_law_is_kind",
  "_law_names_right"]
def loose : List Str := loose0 ++ (loose1)
abbrev RR : PySem.W.OpenRow := PySem.W.OpenLaw.row PySem.Challenge.rw_viewturns_k07_errors_made
abbrev hk : PySem.W.Hook := hookK 6 PP.main.file kfs fds
def ob (s : PySem.W.SharedT) : AlK := obsKG 6 PP.main.file kfs fds (HandSHeadRun.getT s)
theorem ob_eq (s : PySem.W.SharedT) : ob s = hk.obs s.abs := obsKG_eq (HandSHeadRun.getT_eq s)
theorem run (w : World) : HandSHeadRun.RunEq RR (PySem.W.view RR.prog [43]) hk ob 20000 loose w := by
  intro os
  kernel_rfl


local macro_rules | `(tactic| walk_at "wi") => `(tactic| first  | fail)
theorem p__law_state : BegunC c__law_state N__law_state := begun_std


theorem i__law_plain {Q : D → Prop} {E : Xn → Prop} (h : Q (.lst PLN)) : m__law_plain [] Q E := h
theorem p__law_plain : ∀ ds QD ED, m__law_plain ds QD ED → c__law_plain (startE N__law_plain ds) { nx := fun _ => QD .non, rt := fun d _ => QD d } (fun x _ => ED x) := by
  intro ds QD ED h
  unfold m__law_plain at h
  split at h
  · show c__law_plain [.no] _ _
    unfold c__law_plain
    walk_at "w"
    exact h
  · exact h.elim


local macro_rules | `(tactic| walk_at "wi") => `(tactic| first | with_reducible refine i__law_plain ?_ | fail)
theorem i__law_marks {c : Str} {fs : List (Str × D)} {Q : D → Prop} {E : Xn → Prop} (h : c ∈ ECL ∧ Q (.lst (MKS c))) : m__law_marks [.exn c fs] Q E := h
def isXc (gl : List (Str × GV)) (c : Str) : Bool := match gl.lookup c with
  | some (.xc _) => true
  | _ => false
theorem isXc_is {gl : List (Str × GV)} {c : Str} (h : isXc gl c = true) : ∃ fo, gl.lookup c = some (.xc fo) := by
  unfold isXc at h
  split at h
  · rename_i fo e; exact ⟨fo, e⟩
  · cases h
abbrev chkC (c : Str) : Bool := isXc gl__law_plain c && ECL.all fun d => decide (isxV gl__law_plain c (.own d) = some (c == d))
theorem xm_InvalidTree : chkC "InvalidTree" = true := by kernel_rfl
theorem xm_UnknownNode : chkC "UnknownNode" = true := by kernel_rfl
theorem xm_InvalidOperation : chkC "InvalidOperation" = true := by kernel_rfl
theorem xm_InvalidItems : chkC "InvalidItems" = true := by kernel_rfl
theorem xm_InvalidWeights : chkC "InvalidWeights" = true := by kernel_rfl
theorem xm_InvalidExpression : chkC "InvalidExpression" = true := by kernel_rfl
theorem xm_InvalidPart : chkC "InvalidPart" = true := by kernel_rfl
theorem xm_InvalidComponent : chkC "InvalidComponent" = true := by kernel_rfl
theorem xm_InvalidApp : chkC "InvalidApp" = true := by kernel_rfl
theorem xm_InvalidCells : chkC "InvalidCells" = true := by kernel_rfl
theorem xm_UnknownInstance : chkC "UnknownInstance" = true := by kernel_rfl
theorem xm_UnknownCell : chkC "UnknownCell" = true := by kernel_rfl
theorem xm_InvalidValue : chkC "InvalidValue" = true := by kernel_rfl
theorem xm_InvalidChange : chkC "InvalidChange" = true := by kernel_rfl
theorem xm_InvalidUrgency : chkC "InvalidUrgency" = true := by kernel_rfl
theorem xm_InvalidPass : chkC "InvalidPass" = true := by kernel_rfl
theorem xm_InvalidLog : chkC "InvalidLog" = true := by kernel_rfl
theorem xm_InvalidText : chkC "InvalidText" = true := by kernel_rfl
theorem xis_mk : ∀ c ∈ ECL, chkC c = true := by
  intro c hc
  simp only [List.mem_cons, List.not_mem_nil, or_false] at hc
  rcases hc with rfl | rfl | rfl | rfl | rfl | rfl | rfl | rfl | rfl | rfl | rfl | rfl | rfl | rfl | rfl | rfl | rfl | rfl
  · exact xm_InvalidTree
  · exact xm_UnknownNode
  · exact xm_InvalidOperation
  · exact xm_InvalidItems
  · exact xm_InvalidWeights
  · exact xm_InvalidExpression
  · exact xm_InvalidPart
  · exact xm_InvalidComponent
  · exact xm_InvalidApp
  · exact xm_InvalidCells
  · exact xm_UnknownInstance
  · exact xm_UnknownCell
  · exact xm_InvalidValue
  · exact xm_InvalidChange
  · exact xm_InvalidUrgency
  · exact xm_InvalidPass
  · exact xm_InvalidLog
  · exact xm_InvalidText
theorem p__law_marks : ∀ ds QD ED, m__law_marks ds QD ED → c__law_marks (startE N__law_marks ds) { nx := fun _ => QD .non, rt := fun d _ => QD d } (fun x _ => ED x) := by
  intro ds QD ED h
  unfold m__law_marks at h
  split at h
  · rename_i c fs
    obtain ⟨hc, h⟩ := h
    show c__law_marks [.sh (.exn c fs), .no] _ _
    have := xis_mk c hc
    unfold chkC at this
    rw [Bool.and_eq_true] at this
    obtain ⟨h1, h2⟩ := this
    obtain ⟨fo, e1⟩ := isXc_is h1
    have st : ∀ {d : Str} {Q : D × Bool → Prop} {E : Xn → Prop}, d ∈ ECL → Q (.bl (c == d), false) → isxM gl__law_plain (.own d) (.exn c fs) Q E := fun {d Q E} hd q => w_isxk e1 (of_decide_eq_true (List.all_eq_true.mp h2 d hd)) q
    unfold c__law_marks
    generalize gl__law_plain = gl at st ⊢
    repeat (walk_at "w"; refine st (by simp) ?_)
    walk_at "w"
    exact h
  · exact h.elim


local macro_rules | `(tactic| walk_at "wi") => `(tactic| first | with_reducible refine i__law_plain ?_ | with_reducible refine i__law_marks ?_ | fail)
theorem i__law_is_kind {k : Int} {c : Str} {fs : List (Str × D)} {Q : D → Prop} {E : Xn → Prop} (h : kindB k c = true ∧ Q (.bl true)) : m__law_is_kind [.int k, .exn c fs] Q E := h
theorem xis_kd : (ECL.all fun c => isXc gl__law_marks c && decide (isxV gl__law_marks c (.own "TurnError") = some true) && decide (isxV gl__law_marks c (.blt "ValueError") = some true)) = true := by kernel_rfl
def MKP (c : Str) : List PyData := ECL.map fun d => .bool (c == d)
theorem mkp_eq (c : Str) : pyL (MKS c) = some (MKP c) := rfl
theorem cnt_kd : (ECL.all fun c => PyData.canLayAll0 (MKP c) && decide (((MKP c).countP fun z => PyData.eqv z (.bool true)) = 1)) = true := by decide +kernel
theorem p__law_is_kind : ∀ ds QD ED, m__law_is_kind ds QD ED → c__law_is_kind (startE N__law_is_kind ds) { nx := fun _ => QD .non, rt := fun d _ => QD d } (fun x _ => ED x) := by
  intro ds QD ED h
  unfold m__law_is_kind at h
  split at h
  · rename_i k c fs
    obtain ⟨hk, h⟩ := h
    show c__law_is_kind [.sh (.int k), .sh (.exn c fs), .no] _ _
    unfold kindB at hk
    rw [Bool.and_eq_true, decide_eq_true_eq, decide_eq_true_eq] at hk
    obtain ⟨n, rfl⟩ : ∃ n : Nat, k = n := ⟨k.toNat, by omega⟩
    have hk2 : ECL[n]? = some c := by simpa using hk.2
    have hc : c ∈ ECL := List.mem_of_getElem? hk2
    have hat : atI (MKS c) (n : Int) = some (.bl true) := by
      refine atI_nat ?_
      unfold MKS
      rw [List.getElem?_map, hk2]
      show some (D.bl (c == c)) = _
      rw [beq_self_eq_true]
    have := List.all_eq_true.mp xis_kd c hc
    rw [Bool.and_eq_true, Bool.and_eq_true, decide_eq_true_eq, decide_eq_true_eq] at this
    obtain ⟨⟨h1, h2⟩, h3⟩ := this
    obtain ⟨fo, e1⟩ := isXc_is h1
    have h4 := List.all_eq_true.mp cnt_kd c hc
    rw [Bool.and_eq_true, decide_eq_true_eq] at h4
    unfold c__law_is_kind
    generalize gl__law_marks = gl at e1 h2 h3 ⊢
    walk_at "w"
    refine w_countk (mkp_eq c) rfl h4.1 rfl (by decide) h4.2 ?_
    walk_at "w"
    refine w_isxk e1 h2 ?_
    walk_at "w"
    refine w_isxk e1 h3 ?_
    walk_at "w"
    exact h
  · exact h.elim


local macro_rules | `(tactic| walk_at "wi") => `(tactic| first | with_reducible refine i__law_plain ?_ | with_reducible refine i__law_marks ?_ | with_reducible refine i__law_is_kind ?_ | fail)
theorem p__law_draw : DrawC (sSeq c__law_draw1 (sAdopt 2 5 c__law_draw2)) :=
  draw_std thrB_ok mixB_ok finA_ok (fun s g c n a x l Q E n0 n1 q => ⟨⟨n0, n1⟩, q⟩) (fun s g c n a x l Q E n0 q => ⟨n0, q⟩)


theorem i__law_pick {ds : List D} {Q : D → Prop} {E : Xn → Prop} (h : (ds ≠ [] ∧ ds.length ≤ 1000) ∧ ∀ d ∈ ds, Q d) : m__law_pick [.gen, .lst ds] Q E := h
theorem p__law_pick : ∀ ds QD ED, m__law_pick ds QD ED → c__law_pick (startE N__law_pick ds) { nx := fun _ => QD .non, rt := fun d _ => QD d } (fun x _ => ED x) := by
  intro ds QD ED h
  unfold m__law_pick at h
  split at h
  · exact pick_std (x := "_law_draw_here") (y := "_law_some") _ QD ED h
  · exact h.elim


local macro_rules | `(tactic| walk_at "wi") => `(tactic| first | with_reducible refine i__law_plain ?_ | with_reducible refine i__law_marks ?_ | with_reducible refine i__law_is_kind ?_ | with_reducible refine i__law_pick ?_ | fail)
theorem w_mulT {xs : List D} {n : Int} {Q : D × Bool → Prop} {E : Xn → Prop} (h : xs ≠ [] ∧ 2 ≤ n ∧ n ≤ 1000 ∧ xs.length ≤ 1000 ∧ Q (.tup (List.replicate n.toNat xs).flatten, false)) : binM .Mult (.tup xs) (.int n) Q E := h
theorem w_prnil {ρ : Env} {Q : List (D × D) → Prop} {E : Xn → Prop} (h : Q []) : prM [] ρ Q E := h
theorem w_prcons {a b : CB} {r : List (CB × CB)} {ρ : Env} {Q : List (D × D) → Prop} {E : Xn → Prop} (h : a ρ (fun x => b ρ (fun y => prM r ρ (fun l => Q ((x, y) :: l)) E) E) E) : prM ((a, b) :: r) ρ Q E := h
def DCTK (Q : D × Bool → Prop) (l : List (D × D)) : Prop := match kvD l with
  | some kvs => Q (.dct (unK (mergeG [] kvs)), true)
  | none => False
theorem w_dctq {ps : List (CB × CB)} {ρ : Env} {Q : D × Bool → Prop} {E : Xn → Prop} (h : prM ps ρ (DCTK Q) E) : cDct ps ρ Q E := h
theorem w_dctk {Q : D × Bool → Prop} {l : List (D × D)} {kvs : List (Key × D)} {kv2 : List (D × D)} (e : kvD l = some kvs) (e2 : unK (mergeG [] kvs) = kv2) (h : Q (.dct kv2, true)) : DCTK Q l := by
  unfold DCTK; rw [e]; dsimp only; rw [e2]; exact h
theorem all_of {L : List D} (h : (L.all thB) = true) : ∀ d ∈ L, thB d = true := List.all_eq_true.mp h
theorem i__law_thing {Q : D → Prop} {E : Xn → Prop} (h : ∀ d, thB d = true → Q d) : m__law_thing [.gen] Q E := h
theorem p__law_thing : ∀ ds QD ED, m__law_thing ds QD ED → c__law_thing (startE N__law_thing ds) { nx := fun _ => QD .non, rt := fun d _ => QD d } (fun x _ => ED x) := by
  intro ds QD ED h
  unfold m__law_thing at h
  split at h
  · show c__law_thing [.sh .gen, .no] _ _
    unfold c__law_thing
    repeat (first | (with_reducible refine w_dctq ?_) | (walk_at "w1") | (walk_at "wi") | (with_reducible refine w_prnil ?_) | (with_reducible refine w_prcons ?_) | ((with_reducible refine w_dctk (kvs := ?_) (kv2 := ?_) ?_ ?_ ?_); rotate_left 2; exact rfl; exact rfl) | (with_reducible refine w_mulT ?_) | (with_reducible refine And.intro (a := MulOk _ _) ?_ ?_; (unfold MulOk; decide +kernel)) | (with_reducible refine And.intro (a := CPow _ _) ?_ ?_; (unfold CPow; decide +kernel)) | (with_reducible dsimp only))
    refine fun d hd => h d (all_of ?_ d hd)
    decide +kernel
  · exact h.elim


local macro_rules | `(tactic| walk_at "wi") => `(tactic| first | with_reducible refine i__law_plain ?_ | with_reducible refine i__law_marks ?_ | with_reducible refine i__law_is_kind ?_ | with_reducible refine i__law_pick ?_ | with_reducible refine i__law_thing ?_ | fail)
theorem i__law_with {d : D} {Q : D → Prop} {E : Xn → Prop} (h : Q (.lst (WTH d))) : m__law_with [d] Q E := h
theorem lc_two {α : Type} {i j : Nat} {e : CB} {ρ : Env} {E : Xn → Prop} (A B G : α → D) : ∀ {ts : List α} {fs : List D} {Q : List D → Prop}, ts.map (fun t => D.tup [A t, B t]) = fs → (∀ t ∈ ts, ∀ Q : D → Prop, Q (G t) → e ((ρ.set i (.sh (A t))).set j (.sh (B t))) Q E) → Q (ts.map G) → lcM (gTp 2 (gsCons (gNm i) (gsCons (gNm j) gsNil))) tYesD e ρ fs Q E
  | [], fs, Q, hf, _, q => by subst hf; exact q
  | t :: ts, fs, Q, hf, h, q => by
    subst hf
    refine ⟨rfl, ?_⟩
    show e ((ρ.set i (.sh (A t))).set j (.sh (B t))) (fun x => lcM (gTp 2 (gsCons (gNm i) (gsCons (gNm j) gsNil))) tYesD e ρ (ts.map (fun t => D.tup [A t, B t])) (fun r => Q (x :: r)) E) E
    exact h t List.mem_cons_self _ (lc_two A B G rfl (fun s hs => h s (List.mem_cons_of_mem _ hs)) q)
theorem xc_index : ((["InvalidTree", "InvalidOperation", "InvalidLog"] : List Str).all fun c => match gl__law_thing.lookup c with | some (.xc (some f)) => decide (f = "index") | _ => false) = true := by kernel_rfl
theorem xc_name : ((["UnknownNode", "InvalidApp", "UnknownInstance", "UnknownCell"] : List Str).all fun c => match gl__law_thing.lookup c with | some (.xc (some f)) => decide (f = "name") | _ => false) = true := by kernel_rfl
theorem xc_line : ((["InvalidText"] : List Str).all fun c => match gl__law_thing.lookup c with | some (.xc (some f)) => decide (f = "line") | _ => false) = true := by kernel_rfl
theorem xc_at {gl : List (Str × GV)} {L : List Str} {f : Str} (h : (L.all fun c => match gl.lookup c with | some (.xc (some f')) => decide (f' = f) | _ => false) = true) {c : Str} (hc : c ∈ L) {d : D} {Q : D × Bool → Prop} {E : Xn → Prop} (q : Q (d, false)) : attX gl f (.exn c [(f, d)]) Q E := by
  have := List.all_eq_true.mp h c hc
  split at this
  · rename_i f' e
    have := of_decide_eq_true this
    subst this
    exact w_atxk e (by simp [List.lookup]) q
  · cases this
theorem p__law_with : ∀ ds QD ED, m__law_with ds QD ED → c__law_with (startE N__law_with ds) { nx := fun _ => QD .non, rt := fun d _ => QD d } (fun x _ => ED x) := by
  intro ds QD ED h
  unfold m__law_with at h
  split at h
  · rename_i d
    show c__law_with [.sh d, .no, .no, .no, .no] _ _
    have x1 := xc_index
    have x2 := xc_name
    have x3 := xc_line
    unfold c__law_with
    generalize gl__law_thing = gl at x1 x2 x3 ⊢
    walk_at "w"
    refine lc_two (fun t : Int × Str => .int t.1) (fun t => .exn t.2 [("index", d)]) (fun t => .tup [.int t.1, .exn t.2 [("index", d)], d]) (ts := [(0, "InvalidTree"), (0, "InvalidTree"), (2, "InvalidOperation"), (2, "InvalidOperation"), (16, "InvalidLog"), (16, "InvalidLog")]) rfl (fun t ht Q q => ?_) ?_
    · walk_at "w"
      refine xc_at x1 (by simp only [List.mem_cons, List.not_mem_nil, or_false] at ht ⊢; rcases ht with rfl | rfl | rfl | rfl | rfl | rfl <;> simp) ?_
      walk_at "w"
      exact q
    walk_at "w"
    refine lc_two (fun t : Int × Str => .int t.1) (fun t => .exn t.2 [("name", d)]) (fun t => .tup [.int t.1, .exn t.2 [("name", d)], d]) (ts := [(1, "UnknownNode"), (1, "UnknownNode"), (8, "InvalidApp"), (8, "InvalidApp"), (10, "UnknownInstance"), (10, "UnknownInstance"), (11, "UnknownCell"), (11, "UnknownCell")]) rfl (fun t ht Q q => ?_) ?_
    · walk_at "w"
      refine xc_at x2 (by simp only [List.mem_cons, List.not_mem_nil, or_false] at ht ⊢; rcases ht with rfl | rfl | rfl | rfl | rfl | rfl | rfl | rfl <;> simp) ?_
      walk_at "w"
      exact q
    walk_at "w"
    refine lc_two (fun t : Int × Str => .int t.1) (fun t => .exn t.2 [("line", d)]) (fun t => .tup [.int t.1, .exn t.2 [("line", d)], d]) (ts := [(17, "InvalidText"), (17, "InvalidText")]) rfl (fun t ht Q q => ?_) ?_
    · walk_at "w"
      refine xc_at x3 (by simp only [List.mem_cons, List.not_mem_nil, or_false] at ht ⊢; rcases ht with rfl | rfl <;> simp) ?_
      walk_at "w"
      exact q
    walk_at "w"
    exact h
  · exact h.elim


local macro_rules | `(tactic| walk_at "wi") => `(tactic| first | with_reducible refine i__law_plain ?_ | with_reducible refine i__law_marks ?_ | with_reducible refine i__law_is_kind ?_ | with_reducible refine i__law_pick ?_ | with_reducible refine i__law_thing ?_ | with_reducible refine i__law_with ?_ | fail)
theorem i_is_name {d : D} {Q : D → Prop} {E : Xn → Prop} (h : w1B d = true ∧ Q (.bl (nameB d))) : m_is_name [d] Q E := h
theorem p_is_name : ∀ ds QD ED, m_is_name ds QD ED → c_is_name (startE N_is_name ds) { nx := fun _ => QD .non, rt := fun d _ => QD d } (fun x _ => ED x) := by
  intro ds QD ED h
  unfold m_is_name at h
  split at h
  · rename_i d
    obtain ⟨w, h⟩ := h
    show c_is_name [.sh d, .no] _ _
    cases d with
    | str s =>
      have hl := w1_str w
      have hsz : s.length ≤ sizeLine := Nat.le_trans hl (by decide)
      unfold c_is_name
      walk_at "dl0"
      refine ⟨hsz, ?_⟩
      have hin : ∀ Q : Bool → Prop, Q (resB s) → cmpM .In (.str s) (.tup [.str "input", .str "kind", .str "mark", .str "open", .str "self"]) Q ED := fun Q q => q
      have fin : (s.cps.toList.all fun c => inStr ⟨#[c]⟩ LET) = nameB (.str s) → (chars s).length ≤ sizeLine ∧ lcM (gNm 1) tYesD (frz (vT (tCm CmpOp.In (bVar 1) (frz (cC (D.str "abcdefghijklmnopqrstuvwxyz")))))) (wipeE [Cell.sh (D.str s), Cell.no] [1]) (chars s) (fun r => allM [D.lst r] (fun a => QD a.1) (fun x => ED x)) (fun _ => False) := fun e => by
        refine ⟨by rw [chars_len]; exact hsz, ?_⟩
        refine lc_map (fun x => match x with | .str z => .bl (inStr z LET) | x => x) (fun x hx Q q => ?_) ?_
        · rw [chars_eq] at hx
          obtain ⟨c, _, rfl⟩ := List.mem_map.mp hx
          exact q
        · have e2 : (chars s).map (fun x => match x with | .str z => D.bl (inStr z LET) | x => x) = (s.cps.toList.map fun c => inStr ⟨#[c]⟩ LET).map D.bl := by
            rw [chars_eq, List.map_map, List.map_map]
            rfl
          rw [e2]
          show match blsD ((s.cps.toList.map fun c => inStr ⟨#[c]⟩ LET).map D.bl) with | some bs => QD (.bl (bs.all id)) | none => False
          rw [blsD_map]
          show QD (.bl ((s.cps.toList.map fun c => inStr ⟨#[c]⟩ LET).all id))
          rw [List.all_map]
          show QD (.bl (s.cps.toList.all fun c => inStr ⟨#[c]⟩ LET))
          rw [e]; exact h
      rw [name_str] at h fin
      by_cases h1 : (1 : Int) ≤ s.length
      · rw [decide_eq_true h1, Bool.true_and] at h fin
        rw [decide_eq_true h1]
        walk_at "dl0"
        by_cases h2 : (s.length : Int) ≤ 8
        · rw [decide_eq_true h2, Bool.true_and] at h fin
          rw [decide_eq_true h2]
          walk_at "dl0"
          refine hin _ ?_
          cases hr : resB s with
          | true =>
            rw [hr] at h
            exact h
          | false =>
            rw [hr] at fin
            exact fin (by rw [Bool.not_false, Bool.true_and])
        · rw [decide_eq_false h2, Bool.false_and] at h
          rw [decide_eq_false h2]
          exact h
      · rw [decide_eq_false h1, Bool.false_and, Bool.false_and] at h
        rw [decide_eq_false h1]
        exact h
    | obj _ _ => cases w
    | exn _ _ => cases w
    | raw _ => cases w
    | gen => cases w
    | scr _ => cases w
    | _ => exact h
  · exact h.elim


local macro_rules | `(tactic| walk_at "wi") => `(tactic| first | with_reducible refine i__law_plain ?_ | with_reducible refine i__law_marks ?_ | with_reducible refine i__law_is_kind ?_ | with_reducible refine i__law_pick ?_ | with_reducible refine i__law_thing ?_ | with_reducible refine i__law_with ?_ | with_reducible refine i_is_name ?_ | fail)
theorem p_is_integer : ∀ ds QD ED, m_is_integer ds QD ED → c_is_integer (startE N_is_integer ds) { nx := fun _ => QD .non, rt := fun d _ => QD d } (fun x _ => ED x) := by
  intro ds QD ED h
  unfold m_is_integer at h
  split at h
  · rename_i d
    obtain ⟨w, h⟩ := h
    show c_is_integer [.sh d] _ _
    unfold c_is_integer
    cases d <;> first | exact h | cases w
  · exact h.elim


theorem i_is_scalar {d : D} {Q : D → Prop} {E : Xn → Prop} (h : w1B d = true ∧ Q (.bl (scalB d))) : m_is_scalar [d] Q E := h
theorem p_is_scalar : ∀ ds QD ED, m_is_scalar ds QD ED → c_is_scalar (startE N_is_scalar ds) { nx := fun _ => QD .non, rt := fun d _ => QD d } (fun x _ => ED x) := by
  intro ds QD ED h
  unfold m_is_scalar at h
  split at h
  · rename_i d
    obtain ⟨w, h⟩ := h
    show c_is_scalar [.sh d] _ _
    cases d with
    | str s =>
      have hl := w1_str w
      have hsz : s.length ≤ sizeLine := Nat.le_trans hl (by decide)
      unfold c_is_scalar
      walk_at "dl0"
      refine ⟨hsz, ?_⟩
      rw [scal_str] at h
      by_cases h1 : (s.length : Int) ≤ 60
      · rw [decide_eq_true h1, Bool.true_and] at h
        rw [decide_eq_true h1]
        exact h
      · rw [decide_eq_false h1, Bool.false_and] at h
        rw [decide_eq_false h1]
        exact h
    | int i =>
      have hi : ∀ Q : D → Prop, Q (.bl true) → m_is_integer [.int i] Q ED := fun Q q => ⟨rfl, q⟩
      unfold c_is_scalar
      walk_at "dl0"
      refine hi _ ?_
      walk_at "dl0"
      rw [scal_int] at h
      by_cases h1 : (-1000000000000000000 : Int) ≤ i
      · rw [decide_eq_true h1, Bool.true_and] at h
        rw [decide_eq_true h1]
        exact h
      · rw [decide_eq_false h1, Bool.false_and] at h
        rw [decide_eq_false h1]
        exact h
    | non => exact h
    | bl b => exact ⟨rfl, rfl, h⟩
    | lst _ => exact ⟨rfl, rfl, h⟩
    | tup _ => exact ⟨rfl, rfl, h⟩
    | dct _ => exact ⟨rfl, rfl, h⟩
    | _ => cases w
  · exact h.elim


local macro_rules | `(tactic| walk_at "wi") => `(tactic| first | with_reducible refine i__law_plain ?_ | with_reducible refine i__law_marks ?_ | with_reducible refine i__law_is_kind ?_ | with_reducible refine i__law_pick ?_ | with_reducible refine i__law_thing ?_ | with_reducible refine i__law_with ?_ | with_reducible refine i_is_name ?_ | with_reducible refine i_is_scalar ?_ | fail)
theorem i_is_value {d : D} {Q : D → Prop} {E : Xn → Prop} (h : wB d = true ∧ Q (.bl (valB d))) : m_is_value [d] Q E := h
theorem p_is_value : ∀ ds QD ED, m_is_value ds QD ED → c_is_value (startE N_is_value ds) { nx := fun _ => QD .non, rt := fun d _ => QD d } (fun x _ => ED x) := by
  intro ds QD ED h
  unfold m_is_value at h
  split at h
  · rename_i d
    obtain ⟨w, h⟩ := h
    show c_is_value [.sh d, .no] _ _
    have w1 := wB1 w
    cases d with
    | tup ds =>
      obtain ⟨hl, hw⟩ := wB_tup w
      unfold c_is_value
      walk_at "dl0"
      rw [val_tup] at h
      by_cases h1 : (ds.length : Int) ≤ 20
      · rw [decide_eq_true h1, Bool.true_and] at h
        rw [decide_eq_true h1]
        refine ⟨by rw [sizeLine_eq]; omega, ?_⟩
        refine lc_map (fun x => .bl (scalB x)) (fun x hx Q q => ⟨rfl, hw x hx, q⟩) ?_
        have e2 : ds.map (fun x => D.bl (scalB x)) = (ds.map scalB).map D.bl := by rw [List.map_map]; rfl
        rw [e2]
        show match blsD ((ds.map scalB).map D.bl) with | some bs => QD (.bl (bs.all id)) | none => False
        rw [blsD_map]
        show QD (.bl ((ds.map scalB).all id))
        rw [List.all_map]
        exact h
      · rw [decide_eq_false h1, Bool.false_and] at h
        rw [decide_eq_false h1]
        exact h
    | obj _ _ => cases w1
    | exn _ _ => cases w1
    | raw _ => cases w1
    | gen => cases w1
    | scr _ => cases w1
    | _ => exact ⟨rfl, w1, h⟩
  · exact h.elim


local macro_rules | `(tactic| walk_at "wi") => `(tactic| first | with_reducible refine i__law_plain ?_ | with_reducible refine i__law_marks ?_ | with_reducible refine i__law_is_kind ?_ | with_reducible refine i__law_pick ?_ | with_reducible refine i__law_thing ?_ | with_reducible refine i__law_with ?_ | with_reducible refine i_is_name ?_ | with_reducible refine i_is_scalar ?_ | with_reducible refine i_is_value ?_ | fail)
theorem i_is_true {d : D} {Q : D → Prop} {E : Xn → Prop} (h : wB d = true ∧ valB d = true ∧ Q (.bl (trueB d))) : m_is_true [d] Q E := h
theorem p_is_true : ∀ ds QD ED, m_is_true ds QD ED → c_is_true (startE N_is_true ds) { nx := fun _ => QD .non, rt := fun d _ => QD d } (fun x _ => ED x) := by
  intro ds QD ED h
  unfold m_is_true at h
  split at h
  · rename_i d
    obtain ⟨w, v, h⟩ := h
    show c_is_true [.sh d] _ _
    cases d with
    | non => exact h
    | str s =>
      have e1 : ∀ Q : Bool → Prop, Q false → eqM (.str s) (.int 0) Q ED := fun Q q => q
      have e2 : ∀ Q : Bool → Prop, Q (s == ("" : Str)) → eqM (.str s) (.str "") Q ED := fun Q q => q
      have e3 : ∀ Q : Bool → Prop, Q false → eqM (.str s) (.tup []) Q ED := fun Q q => ⟨shaped_str (w1_str2 (wB1 w)).2, by decide, q⟩
      unfold c_is_true
      walk_at "dl0"
      refine e1 _ ?_
      walk_at "dl0"
      have h : QD (.bl (s != ("" : Str))) := h
      cases hs : (s == ("" : Str)) with
      | true =>
        have : (s != ("" : Str)) = false := by unfold bne; rw [hs]; rfl
        rw [this] at h
        exact h
      | false =>
        have : (s != ("" : Str)) = true := by unfold bne; rw [hs]; rfl
        rw [this] at h
        walk_at "dl0"
        refine (show _ ∧ _ from ⟨by decide, ?_⟩)
        exact e3 _ h
    | int i =>
      have e1 : ∀ Q : Bool → Prop, Q (i == 0) → eqM (.int i) (.int 0) Q ED := fun Q q => q
      have e2 : ∀ Q : Bool → Prop, Q false → eqM (.int i) (.str "") Q ED := fun Q q => q
      have e3 : ∀ Q : Bool → Prop, Q false → eqM (.int i) (.tup []) Q ED := fun Q q => ⟨rfl, by decide, q⟩
      unfold c_is_true
      walk_at "dl0"
      have h : QD (.bl (i != 0)) := h
      cases hs : (i == 0) with
      | true =>
        have : (i != 0) = false := by unfold bne; rw [hs]; rfl
        rw [this] at h
        exact h
      | false =>
        have : (i != 0) = true := by unfold bne; rw [hs]; rfl
        rw [this] at h
        walk_at "dl0"
        refine e2 _ ?_
        walk_at "dl0"
        refine (show _ ∧ _ from ⟨by decide, ?_⟩)
        exact e3 _ h
    | tup ds =>
      have hv : ds.all scalB = true := by
        unfold valB at v
        rw [Bool.and_eq_true] at v
        exact v.2
      unfold c_is_true
      walk_at "dl0"
      refine ne_tup (wB_tup w).2 hv rfl (by decide +kernel) (fun ps => rfl) ?_
      walk_at "dl0"
      refine ne_tup (wB_tup w).2 hv rfl (by decide +kernel) (fun ps => rfl) ?_
      walk_at "dl0"
      refine ⟨by decide, ?_⟩
      exact eq_nilT (scals_py (wB_tup w).2 hv) h
    | _ => cases v
  · exact h.elim


local macro_rules | `(tactic| walk_at "wi") => `(tactic| first | with_reducible refine i__law_plain ?_ | with_reducible refine i__law_marks ?_ | with_reducible refine i__law_is_kind ?_ | with_reducible refine i__law_pick ?_ | with_reducible refine i__law_thing ?_ | with_reducible refine i__law_with ?_ | with_reducible refine i_is_name ?_ | with_reducible refine i_is_scalar ?_ | with_reducible refine i_is_value ?_ | with_reducible refine i_is_true ?_ | fail)
theorem rep_bls (a b : Bool) : repOk (.lst [.bl a, .bl b]) = true := by cases a <;> cases b <;> decide +kernel
theorem rep_bl (a : Bool) : repOk (.bl a) = true := by cases a <;> decide +kernel
theorem i__law_names_right {d : D} {Q : D → Prop} {E : Xn → Prop} (h : wB d = true ∧ Q (.bl true)) : m__law_names_right [d] Q E := h
theorem p__law_names_right : ∀ ds QD ED, m__law_names_right ds QD ED → c__law_names_right (startE N__law_names_right ds) { nx := fun _ => QD .non, rt := fun d _ => QD d } (fun x _ => ED x) := by
  intro ds QD ED h
  unfold m__law_names_right at h
  split at h
  · rename_i d
    obtain ⟨hw, h⟩ := h
    show c__law_names_right [.sh d] _ _
    have w1 := wB1 hw
    unfold c__law_names_right
    walk_at "w"
    refine i_is_name (d := d) ?_
    walk_at "w"
    refine i_is_value (d := d) ?_
    walk_at "w"
    refine w_rep (rep_bls _ _) ?_
    walk_at "w"
    refine w_rep (rep_bls _ _) ?_
    walk_at "w"
    refine i_is_scalar (d := d) ?_
    walk_at "w"
    refine w_rep (rep_bl _) ?_
    walk_at "w"
    refine w_rep (rep_bl _) ?_
    walk_at "w"
    cases hv : valB d with
    | false =>
      walk_at "w"
      exact h
    | true =>
      walk_at "w"
      refine i_is_true (d := d) ?_
      walk_at "w"
      refine w_rep (rep_bl _) ?_
      walk_at "w"
      refine w_rep (rep_bl _) ?_
      walk_at "w"
      rw [decide_eq_true rfl]
      exact h
  · exact h.elim


local macro_rules | `(tactic| walk_at "wi") => `(tactic| first | with_reducible refine i__law_plain ?_ | with_reducible refine i__law_marks ?_ | with_reducible refine i__law_is_kind ?_ | with_reducible refine i__law_pick ?_ | with_reducible refine i__law_thing ?_ | with_reducible refine i__law_with ?_ | with_reducible refine i_is_name ?_ | with_reducible refine i_is_scalar ?_ | with_reducible refine i_is_value ?_ | with_reducible refine i_is_true ?_ | with_reducible refine i__law_names_right ?_ | fail)
theorem w_begun {ns : List Int} {Q : D → Prop} {E : Xn → Prop} (h : Q .gen) : begunM [.scr ns] Q E := h
theorem lc_no2 {α : Type} {i j : Nat} {tt : CT} {e : CB} {ρ : Env} {E : Xn → Prop} (A B : α → D) : ∀ {ts : List α} {fs : List D} {Q : List D → Prop}, ts.map (fun t => D.tup [A t, B t]) = fs → (∀ t ∈ ts, ∀ Q : Bool → Prop, Q false → tt ((ρ.set i (.sh (A t))).set j (.sh (B t))) Q E) → Q [] → lcM (gTp 2 (gsCons (gNm i) (gsCons (gNm j) gsNil))) tt e ρ fs Q E
  | [], fs, Q, hf, _, q => by subst hf; exact q
  | t :: ts, fs, Q, hf, h, q => by
    subst hf
    refine ⟨rfl, ?_⟩
    exact h t List.mem_cons_self _ (lc_no2 A B rfl (fun s hs => h s (List.mem_cons_of_mem _ hs)) q)
theorem kindPl (t : Int × Str) (h : t ∈ ([(3, "InvalidItems"), (4, "InvalidWeights"), (5, "InvalidExpression"), (6, "InvalidPart"), (7, "InvalidComponent"), (9, "InvalidCells"), (12, "InvalidValue"), (13, "InvalidChange"), (14, "InvalidUrgency"), (15, "InvalidPass")] : List (Int × Str))) : kindB t.1 t.2 = true := by
  simp only [List.mem_cons, List.not_mem_nil, or_false] at h
  rcases h with rfl | rfl | rfl | rfl | rfl | rfl | rfl | rfl | rfl | rfl <;> decide +kernel
theorem w_eqnil {Q : Bool → Prop} {E : Xn → Prop} (h : Q true) : eqM (.lst []) (.lst []) Q E := by
  unfold eqM
  exact ⟨by decide +kernel, by decide +kernel, h⟩
theorem thB_is {d : D} (h : thB d = true) : wB d = true ∧ repOk d = true := by
  unfold thB at h
  rwa [Bool.and_eq_true] at h
theorem wth_mem {x d : D} (h : x ∈ WTH d) : ∃ k c f, x = .tup [.int k, .exn c [(f, d)], d] ∧ kindB k c = true := by
  unfold WTH at h
  simp only [List.mem_cons, List.not_mem_nil, or_false] at h
  rcases h with rfl | rfl | rfl | rfl | rfl | rfl | rfl | rfl | rfl | rfl | rfl | rfl | rfl | rfl | rfl | rfl <;> exact ⟨_, _, _, rfl, by decide +kernel⟩
theorem p_law : ∀ ds QD ED, lawM ds QD ED → c_law (startE N_law ds) { nx := fun _ => QD .non, rt := fun d _ => QD d } (fun x _ => ED x) := by
  intro ds QD ED h
  unfold lawM at h
  split at h
  · rename_i ns
    show c_law [.sh (.scr ns), .no, .no, .no, .no, .no, .no] _ _
    unfold c_law
    walk_at "w"
    refine w_begun ?_
    walk_at "w"
    refine lc_no2 (ts := [(3, "InvalidItems"), (4, "InvalidWeights"), (5, "InvalidExpression"), (6, "InvalidPart"), (7, "InvalidComponent"), (9, "InvalidCells"), (12, "InvalidValue"), (13, "InvalidChange"), (14, "InvalidUrgency"), (15, "InvalidPass")]) (fun t : Int × Str => .int t.1) (fun t => .exn t.2 []) rfl (fun t ht Q q => ?_) ?_
    · walk_at "w"
      refine ⟨kindPl t ht, ?_⟩
      walk_at "w"
      exact q
    walk_at "w"
    refine w_eqnil ?_
    walk_at "w"
    refine for_inv (k := 0) (fun _ ρ => ∃ c2 c3 c4 c5 c6 : Cell, ρ = [.sh (.scr ns), .sh .gen, c2, c3, c4, c5, c6]) ⟨_, _, _, _, _, rfl⟩ (fun i d ρ nx hi hI hn => ?_) (fun ρ hI => ?_)
    · obtain ⟨c2, c3, c4, c5, c6, rfl⟩ := hI
      walk_at "w"
      intro d hd
      obtain ⟨hw, hr⟩ := thB_is hd
      walk_at "w"
      refine for_inv (k := 0) (fun _ ρ => ∃ c2 c3 c4 c6 : Cell, ρ = [.sh (.scr ns), .sh .gen, c2, c3, c4, .sh d, c6]) ⟨_, _, _, _, rfl⟩ (fun i x ρ nx2 hi2 hI2 hn2 => ?_) (fun ρ hI2 => ?_)
      · obtain ⟨c2, c3, c4, c6, rfl⟩ := hI2
        obtain ⟨k, c, f, rfl, hk⟩ := wth_mem (List.mem_of_getElem? hi2)
        walk_at "w"
        refine w_rep hr ?_
        walk_at "w"
        refine w_rep hr ?_
        walk_at "w"
        exact hn2 _ ⟨_, _, _, _, rfl⟩
      · obtain ⟨c2, c3, c4, c6, rfl⟩ := hI2
        walk_at "w"
        exact hn _ ⟨_, _, _, _, _, rfl⟩
    · obtain ⟨c2, c3, c4, c5, c6, rfl⟩ := hI
      walk_at "w"
      exact h
  · exact h.elim


section
variable {w : World} {K : PySem.W.Frag} {h : Heap} {mg : Str → Option Value} {base : Heap} {k : Nat}
theorem glb0 (X : K.In h) (G : h.Ns mainGlobals mg) (c : SaysK PP.main.file kfs fds K) : GlB PP w K mg base 0 gl0 :=
  GlB.cons ⟨kf_free X G (c.fact 0 (by kernel_rfl)), (by kernel_rfl), by decide, fun _ _ _ _ => b_abs⟩ (GlB.cons ⟨kf_free X G (c.fact 1 (by kernel_rfl)), (by kernel_rfl), by decide, fun _ hc _ _ => b_all hc⟩ (GlB.cons ⟨kf_free X G (c.fact 2 (by kernel_rfl)), (by kernel_rfl), by decide, fun _ _ _ _ => b_no⟩ (GlB.cons ⟨kf_free X G (c.fact 3 (by kernel_rfl)), (by kernel_rfl), by decide, fun _ _ _ _ => b_no⟩ (GlB.cons (kf_free X G (c.fact 4 (by kernel_rfl))) (GlB.cons ⟨kf_free X G (c.fact 5 (by kernel_rfl)), (by kernel_rfl), by decide, fun _ _ _ _ => b_len⟩ (GlB.cons (kf_free X G (c.fact 6 (by kernel_rfl))) (GlB.cons ⟨kf_free X G (c.fact 7 (by kernel_rfl)), (by kernel_rfl), by decide, fun _ _ gd hu => b_repr2 gd hu⟩ (GlB.cons ⟨kf_free X G (c.fact 8 (by kernel_rfl)), (by kernel_rfl), by decide, fun _ _ _ _ => b_no⟩ (GlB.cons ⟨kf_free X G (c.fact 9 (by kernel_rfl)), (by kernel_rfl), by decide, fun _ _ _ _ => b_tuple⟩ (GlB.cons (gv_con (v := (.str "abcdefghijklmnopqrstuvwxyz")) X G (c.fact 10 (by kernel_rfl))) (GlB.cons (gv_con (v := (.int 8)) X G (c.fact 11 (by kernel_rfl))) (GlB.cons (gv_con (v := (.int 60)) X G (c.fact 12 (by kernel_rfl))) (GlB.cons (gv_con (v := (.int 20)) X G (c.fact 13 (by kernel_rfl))) (GlB.cons (gv_con (v := (.int 1000000000000000000)) X G (c.fact 14 (by kernel_rfl))) (GlB.cons (gv_tup X G (zs := ["input", "kind", "mark", "open", "self"]) (c.fact 15 (by kernel_rfl))) (GlB.cons (gv_xb X G (c.fact 16 (by kernel_rfl))) (GlB.cons (gv_bt X G (c.fact 17 (by kernel_rfl)) (by kernel_rfl) (by decide)) (GlB.cons (gv_xis (c.fact 18 (by kernel_rfl))) (GlB.cons (gv_xis (c.fact 19 (by kernel_rfl))) (GlB.cons (gv_xis (c.fact 20 (by kernel_rfl))) (GlB.cons (gv_xis (c.fact 21 (by kernel_rfl))) (GlB.cons (gv_xis (c.fact 22 (by kernel_rfl))) (GlB.cons (gv_xis (c.fact 23 (by kernel_rfl))) (GlB.cons (gv_xis (c.fact 24 (by kernel_rfl))) (GlB.cons (gv_xis (c.fact 25 (by kernel_rfl))) (GlB.cons (gv_xis (c.fact 26 (by kernel_rfl))) (GlB.cons (gv_xis (c.fact 27 (by kernel_rfl))) (GlB.cons (gv_xis (c.fact 28 (by kernel_rfl))) (GlB.cons (gv_xis (c.fact 29 (by kernel_rfl))) (GlB.cons (gv_xis (c.fact 30 (by kernel_rfl))) (GlB.cons (gv_xis (c.fact 31 (by kernel_rfl))) (GlB.cons (gv_xis (c.fact 32 (by kernel_rfl))) (GlB.cons (gv_xis (c.fact 33 (by kernel_rfl))) (GlB.cons (gv_xis (c.fact 34 (by kernel_rfl))) (GlB.cons (gv_xis (c.fact 35 (by kernel_rfl))) (GlB.cons (gv_xis (c.fact 36 (by kernel_rfl))) (GlB.cons (gv_xit (c.fact 37 (by kernel_rfl))) (GlB.cons (gv_xis (c.fact 38 (by kernel_rfl))) (GlB.cons (gv_xis (c.fact 39 (by kernel_rfl))) (GlB.cons (gv_xis (c.fact 40 (by kernel_rfl))) (GlB.cons (gv_xis (c.fact 41 (by kernel_rfl))) (GlB.cons (gv_xis (c.fact 42 (by kernel_rfl))) (GlB.cons (gv_xis (c.fact 43 (by kernel_rfl))) (GlB.cons (gv_xis (c.fact 44 (by kernel_rfl))) (GlB.cons (gv_xis (c.fact 45 (by kernel_rfl))) (GlB.cons (gv_xis (c.fact 46 (by kernel_rfl))) (GlB.cons (gv_xis (c.fact 47 (by kernel_rfl))) (GlB.cons (gv_xis (c.fact 48 (by kernel_rfl))) (GlB.cons (gv_xis (c.fact 49 (by kernel_rfl))) (GlB.cons (gv_xis (c.fact 50 (by kernel_rfl))) (GlB.cons (gv_xis (c.fact 51 (by kernel_rfl))) (GlB.cons (gv_xis (c.fact 52 (by kernel_rfl))) (GlB.cons (gv_xis (c.fact 53 (by kernel_rfl))) (GlB.cons (gv_xis (c.fact 54 (by kernel_rfl))) (GlB.cons (gv_xis (c.fact 55 (by kernel_rfl))) (GlB.cons (gv_xis (c.fact 56 (by kernel_rfl))) (GlB.cons (gv_xit (c.fact 57 (by kernel_rfl))) (GlB.cons (gv_xis (c.fact 58 (by kernel_rfl))) (GlB.cons (gv_xis (c.fact 59 (by kernel_rfl))) (GlB.cons (gv_xis (c.fact 60 (by kernel_rfl))) (GlB.cons (gv_xis (c.fact 61 (by kernel_rfl))) (GlB.cons (gv_xis (c.fact 62 (by kernel_rfl))) (GlB.cons (gv_xis (c.fact 63 (by kernel_rfl))) (GlB.cons (gv_xis (c.fact 64 (by kernel_rfl))) (GlB.cons (gv_xis (c.fact 65 (by kernel_rfl))) (GlB.cons (gv_xis (c.fact 66 (by kernel_rfl))) (GlB.cons (gv_xis (c.fact 67 (by kernel_rfl))) (GlB.cons (gv_xis (c.fact 68 (by kernel_rfl))) (GlB.cons (gv_xis (c.fact 69 (by kernel_rfl))) (GlB.cons (gv_xis (c.fact 70 (by kernel_rfl))) (GlB.cons (gv_xis (c.fact 71 (by kernel_rfl))) (GlB.cons (gv_xis (c.fact 72 (by kernel_rfl))) (GlB.cons (gv_xis (c.fact 73 (by kernel_rfl))) (GlB.cons (gv_xis (c.fact 74 (by kernel_rfl))) (GlB.cons (gv_xis (c.fact 75 (by kernel_rfl))) (GlB.cons (gv_xis (c.fact 76 (by kernel_rfl))) (GlB.cons (gv_xit (c.fact 77 (by kernel_rfl))) (GlB.cons (gv_xis (c.fact 78 (by kernel_rfl))) (GlB.cons (gv_xis (c.fact 79 (by kernel_rfl))) (GlB.cons (gv_xis (c.fact 80 (by kernel_rfl))) (GlB.cons (gv_xis (c.fact 81 (by kernel_rfl))) (GlB.cons (gv_xis (c.fact 82 (by kernel_rfl))) (GlB.cons (gv_xis (c.fact 83 (by kernel_rfl))) (GlB.cons (gv_xis (c.fact 84 (by kernel_rfl))) (GlB.cons (gv_xis (c.fact 85 (by kernel_rfl))) (GlB.cons (gv_xis (c.fact 86 (by kernel_rfl))) (GlB.cons (gv_xis (c.fact 87 (by kernel_rfl))) (GlB.cons (gv_xis (c.fact 88 (by kernel_rfl))) (GlB.cons (gv_xis (c.fact 89 (by kernel_rfl))) (GlB.cons (gv_xis (c.fact 90 (by kernel_rfl))) (GlB.cons (gv_xis (c.fact 91 (by kernel_rfl))) (GlB.cons (gv_xis (c.fact 92 (by kernel_rfl))) (GlB.cons (gv_xis (c.fact 93 (by kernel_rfl))) (GlB.cons (gv_xis (c.fact 94 (by kernel_rfl))) (GlB.cons (gv_xis (c.fact 95 (by kernel_rfl))) (GlB.cons (gv_xis (c.fact 96 (by kernel_rfl))) (GlB.cons (gv_xit (c.fact 97 (by kernel_rfl))) (GlB.cons (gv_xis (c.fact 98 (by kernel_rfl))) (GlB.cons (gv_xis (c.fact 99 (by kernel_rfl))) (GlB.cons (gv_xis (c.fact 100 (by kernel_rfl))) (GlB.cons (gv_xis (c.fact 101 (by kernel_rfl))) (GlB.cons (gv_xis (c.fact 102 (by kernel_rfl))) (GlB.cons (gv_xis (c.fact 103 (by kernel_rfl))) (GlB.cons (gv_xis (c.fact 104 (by kernel_rfl))) (GlB.cons (gv_xis (c.fact 105 (by kernel_rfl))) (GlB.cons (gv_xis (c.fact 106 (by kernel_rfl))) (GlB.cons (gv_xis (c.fact 107 (by kernel_rfl))) (GlB.cons (gv_xis (c.fact 108 (by kernel_rfl))) (GlB.cons (gv_xis (c.fact 109 (by kernel_rfl))) (GlB.cons (gv_xis (c.fact 110 (by kernel_rfl))) (GlB.cons (gv_xis (c.fact 111 (by kernel_rfl))) (GlB.cons (gv_xis (c.fact 112 (by kernel_rfl))) (GlB.cons (gv_xis (c.fact 113 (by kernel_rfl))) (GlB.cons (gv_xis (c.fact 114 (by kernel_rfl))) (GlB.cons (gv_xis (c.fact 115 (by kernel_rfl))) (GlB.cons (gv_xis (c.fact 116 (by kernel_rfl))) (GlB.cons (gv_xit (c.fact 117 (by kernel_rfl))) (GlB.cons (gv_xis (c.fact 118 (by kernel_rfl))) (GlB.cons (gv_xis (c.fact 119 (by kernel_rfl))) (GlB.cons (gv_xis (c.fact 120 (by kernel_rfl))) (GlB.cons (gv_xis (c.fact 121 (by kernel_rfl))) (GlB.cons (gv_xis (c.fact 122 (by kernel_rfl))) (GlB.cons (gv_xis (c.fact 123 (by kernel_rfl))) (GlB.cons (gv_xis (c.fact 124 (by kernel_rfl))) (GlB.cons (gv_xis (c.fact 125 (by kernel_rfl))) (GlB.cons (gv_xis (c.fact 126 (by kernel_rfl))) (GlB.cons (gv_xis (c.fact 127 (by kernel_rfl))) (GlB.cons (gv_xis (c.fact 128 (by kernel_rfl))) (GlB.cons (gv_xis (c.fact 129 (by kernel_rfl))) (GlB.cons (gv_xis (c.fact 130 (by kernel_rfl))) (GlB.cons (gv_xis (c.fact 131 (by kernel_rfl))) (GlB.cons (gv_xis (c.fact 132 (by kernel_rfl))) (GlB.cons (gv_xis (c.fact 133 (by kernel_rfl))) (GlB.cons (gv_xis (c.fact 134 (by kernel_rfl))) (GlB.cons (gv_xis (c.fact 135 (by kernel_rfl))) (GlB.cons (gv_xis (c.fact 136 (by kernel_rfl))) (GlB.cons (gv_xit (c.fact 137 (by kernel_rfl))) (GlB.cons (gv_xis (c.fact 138 (by kernel_rfl))) (GlB.cons (gv_xis (c.fact 139 (by kernel_rfl))) (GlB.cons (gv_xis (c.fact 140 (by kernel_rfl))) (GlB.cons (gv_xis (c.fact 141 (by kernel_rfl))) (GlB.cons (gv_xis (c.fact 142 (by kernel_rfl))) (GlB.cons (gv_xis (c.fact 143 (by kernel_rfl))) (GlB.cons (gv_xis (c.fact 144 (by kernel_rfl))) (GlB.cons (gv_xis (c.fact 145 (by kernel_rfl))) (GlB.cons (gv_xis (c.fact 146 (by kernel_rfl))) (GlB.cons (gv_xis (c.fact 147 (by kernel_rfl))) (GlB.cons (gv_xis (c.fact 148 (by kernel_rfl))) (GlB.cons (gv_xis (c.fact 149 (by kernel_rfl))) (GlB.cons (gv_xis (c.fact 150 (by kernel_rfl))) (GlB.cons (gv_xis (c.fact 151 (by kernel_rfl))) (GlB.cons (gv_xis (c.fact 152 (by kernel_rfl))) (GlB.cons (gv_xis (c.fact 153 (by kernel_rfl))) (GlB.cons (gv_xis (c.fact 154 (by kernel_rfl))) (GlB.cons (gv_xis (c.fact 155 (by kernel_rfl))) (GlB.cons (gv_xis (c.fact 156 (by kernel_rfl))) (GlB.cons (gv_xit (c.fact 157 (by kernel_rfl))) (GlB.cons (gv_xis (c.fact 158 (by kernel_rfl))) (GlB.cons (gv_xis (c.fact 159 (by kernel_rfl))) (GlB.cons (gv_xis (c.fact 160 (by kernel_rfl))) (GlB.cons (gv_xis (c.fact 161 (by kernel_rfl))) (GlB.cons (gv_xis (c.fact 162 (by kernel_rfl))) (GlB.cons (gv_xis (c.fact 163 (by kernel_rfl))) (GlB.cons (gv_xis (c.fact 164 (by kernel_rfl))) (GlB.cons (gv_xis (c.fact 165 (by kernel_rfl))) (GlB.cons (gv_xis (c.fact 166 (by kernel_rfl))) (GlB.cons (gv_xis (c.fact 167 (by kernel_rfl))) (GlB.cons (gv_xis (c.fact 168 (by kernel_rfl))) (GlB.cons (gv_xis (c.fact 169 (by kernel_rfl))) (GlB.cons (gv_xis (c.fact 170 (by kernel_rfl))) (GlB.cons (gv_xis (c.fact 171 (by kernel_rfl))) (GlB.cons (gv_xis (c.fact 172 (by kernel_rfl))) (GlB.cons (gv_xis (c.fact 173 (by kernel_rfl))) (GlB.cons (gv_xis (c.fact 174 (by kernel_rfl))) (GlB.cons (gv_xis (c.fact 175 (by kernel_rfl))) (GlB.cons (gv_xis (c.fact 176 (by kernel_rfl))) (GlB.cons (gv_xit (c.fact 177 (by kernel_rfl))) (GlB.cons (gv_xis (c.fact 178 (by kernel_rfl))) (GlB.cons (gv_xis (c.fact 179 (by kernel_rfl))) (GlB.cons (gv_xis (c.fact 180 (by kernel_rfl))) (GlB.cons (gv_xis (c.fact 181 (by kernel_rfl))) (GlB.cons (gv_xis (c.fact 182 (by kernel_rfl))) (GlB.cons (gv_xis (c.fact 183 (by kernel_rfl))) (GlB.cons (gv_xis (c.fact 184 (by kernel_rfl))) (GlB.cons (gv_xis (c.fact 185 (by kernel_rfl))) (GlB.cons (gv_xis (c.fact 186 (by kernel_rfl))) (GlB.cons (gv_xis (c.fact 187 (by kernel_rfl))) (GlB.cons (gv_xis (c.fact 188 (by kernel_rfl))) (GlB.cons (gv_xis (c.fact 189 (by kernel_rfl))) (GlB.cons (gv_xis (c.fact 190 (by kernel_rfl))) (GlB.cons (gv_xis (c.fact 191 (by kernel_rfl))) (GlB.cons (gv_xis (c.fact 192 (by kernel_rfl))) (GlB.cons (gv_xis (c.fact 193 (by kernel_rfl))) (GlB.cons (gv_xis (c.fact 194 (by kernel_rfl))) (GlB.cons (gv_xis (c.fact 195 (by kernel_rfl))) (GlB.cons (gv_xis (c.fact 196 (by kernel_rfl))) (GlB.cons (gv_xit (c.fact 197 (by kernel_rfl))) (GlB.cons (gv_xis (c.fact 198 (by kernel_rfl))) (GlB.cons (gv_xis (c.fact 199 (by kernel_rfl))) (GlB.cons (gv_xis (c.fact 200 (by kernel_rfl))) (GlB.cons (gv_xis (c.fact 201 (by kernel_rfl))) (GlB.cons (gv_xis (c.fact 202 (by kernel_rfl))) (GlB.cons (gv_xis (c.fact 203 (by kernel_rfl))) (GlB.cons (gv_xis (c.fact 204 (by kernel_rfl))) (GlB.cons (gv_xis (c.fact 205 (by kernel_rfl))) (GlB.cons (gv_xis (c.fact 206 (by kernel_rfl))) (GlB.cons (gv_xis (c.fact 207 (by kernel_rfl))) (GlB.cons (gv_xis (c.fact 208 (by kernel_rfl))) (GlB.cons (gv_xis (c.fact 209 (by kernel_rfl))) (GlB.cons (gv_xis (c.fact 210 (by kernel_rfl))) (GlB.cons (gv_xis (c.fact 211 (by kernel_rfl))) (GlB.cons (gv_xis (c.fact 212 (by kernel_rfl))) (GlB.cons (gv_xis (c.fact 213 (by kernel_rfl))) (GlB.cons (gv_xis (c.fact 214 (by kernel_rfl))) (GlB.cons (gv_xis (c.fact 215 (by kernel_rfl))) (GlB.cons (gv_xis (c.fact 216 (by kernel_rfl))) (GlB.cons (gv_xit (c.fact 217 (by kernel_rfl))) (GlB.cons (gv_xis (c.fact 218 (by kernel_rfl))) (GlB.cons (gv_xis (c.fact 219 (by kernel_rfl))) (GlB.cons (gv_xis (c.fact 220 (by kernel_rfl))) (GlB.cons (gv_xis (c.fact 221 (by kernel_rfl))) (GlB.cons (gv_xis (c.fact 222 (by kernel_rfl))) (GlB.cons (gv_xis (c.fact 223 (by kernel_rfl))) (GlB.cons (gv_xis (c.fact 224 (by kernel_rfl))) (GlB.cons (gv_xis (c.fact 225 (by kernel_rfl))) (GlB.cons (gv_xis (c.fact 226 (by kernel_rfl))) (GlB.cons (gv_xis (c.fact 227 (by kernel_rfl))) (GlB.cons (gv_xis (c.fact 228 (by kernel_rfl))) (GlB.cons (gv_xis (c.fact 229 (by kernel_rfl))) (GlB.cons (gv_xis (c.fact 230 (by kernel_rfl))) (GlB.cons (gv_xis (c.fact 231 (by kernel_rfl))) (GlB.cons (gv_xis (c.fact 232 (by kernel_rfl))) (GlB.cons (gv_xis (c.fact 233 (by kernel_rfl))) (GlB.cons (gv_xis (c.fact 234 (by kernel_rfl))) (GlB.cons (gv_xis (c.fact 235 (by kernel_rfl))) (GlB.cons (gv_xis (c.fact 236 (by kernel_rfl))) (GlB.cons (gv_xit (c.fact 237 (by kernel_rfl))) (GlB.cons (gv_xis (c.fact 238 (by kernel_rfl))) (GlB.cons (gv_xis (c.fact 239 (by kernel_rfl))) (GlB.cons (gv_xis (c.fact 240 (by kernel_rfl))) (GlB.cons (gv_xis (c.fact 241 (by kernel_rfl))) (GlB.cons (gv_xis (c.fact 242 (by kernel_rfl))) (GlB.cons (gv_xis (c.fact 243 (by kernel_rfl))) (GlB.cons (gv_xis (c.fact 244 (by kernel_rfl))) (GlB.cons (gv_xis (c.fact 245 (by kernel_rfl))) (GlB.cons (gv_xis (c.fact 246 (by kernel_rfl))) (GlB.cons (gv_xis (c.fact 247 (by kernel_rfl))) (GlB.cons (gv_xis (c.fact 248 (by kernel_rfl))) (GlB.cons (gv_xis (c.fact 249 (by kernel_rfl))) (GlB.cons (gv_xis (c.fact 250 (by kernel_rfl))) (GlB.cons (gv_xis (c.fact 251 (by kernel_rfl))) (GlB.cons (gv_xis (c.fact 252 (by kernel_rfl))) (GlB.cons (gv_xis (c.fact 253 (by kernel_rfl))) (GlB.cons (gv_xis (c.fact 254 (by kernel_rfl))) (GlB.cons (gv_xis (c.fact 255 (by kernel_rfl))) (GlB.cons (gv_xis (c.fact 256 (by kernel_rfl))) (GlB.cons (gv_xit (c.fact 257 (by kernel_rfl))) (GlB.cons (gv_xis (c.fact 258 (by kernel_rfl))) (GlB.cons (gv_xis (c.fact 259 (by kernel_rfl))) (GlB.cons (gv_xis (c.fact 260 (by kernel_rfl))) (GlB.cons (gv_xis (c.fact 261 (by kernel_rfl))) (GlB.cons (gv_xis (c.fact 262 (by kernel_rfl))) (GlB.cons (gv_xis (c.fact 263 (by kernel_rfl))) (GlB.cons (gv_xis (c.fact 264 (by kernel_rfl))) (GlB.cons (gv_xis (c.fact 265 (by kernel_rfl))) (GlB.cons (gv_xis (c.fact 266 (by kernel_rfl))) (GlB.cons (gv_xis (c.fact 267 (by kernel_rfl))) (GlB.cons (gv_xis (c.fact 268 (by kernel_rfl))) (GlB.cons (gv_xis (c.fact 269 (by kernel_rfl))) (GlB.cons (gv_xis (c.fact 270 (by kernel_rfl))) (GlB.cons (gv_xis (c.fact 271 (by kernel_rfl))) (GlB.cons (gv_xis (c.fact 272 (by kernel_rfl))) (GlB.cons (gv_xis (c.fact 273 (by kernel_rfl))) (GlB.cons (gv_xis (c.fact 274 (by kernel_rfl))) (GlB.cons (gv_xis (c.fact 275 (by kernel_rfl))) (GlB.cons (gv_xis (c.fact 276 (by kernel_rfl))) (GlB.cons (gv_xit (c.fact 277 (by kernel_rfl))) (GlB.cons (gv_xis (c.fact 278 (by kernel_rfl))) (GlB.cons (gv_xis (c.fact 279 (by kernel_rfl))) (GlB.cons (gv_xis (c.fact 280 (by kernel_rfl))) (GlB.cons (gv_xis (c.fact 281 (by kernel_rfl))) (GlB.cons (gv_xis (c.fact 282 (by kernel_rfl))) (GlB.cons (gv_xis (c.fact 283 (by kernel_rfl))) (GlB.cons (gv_xis (c.fact 284 (by kernel_rfl))) (GlB.cons (gv_xis (c.fact 285 (by kernel_rfl))) (GlB.cons (gv_xis (c.fact 286 (by kernel_rfl))) (GlB.cons (gv_xis (c.fact 287 (by kernel_rfl))) (GlB.cons (gv_xis (c.fact 288 (by kernel_rfl))) (GlB.cons (gv_xis (c.fact 289 (by kernel_rfl))) (GlB.cons (gv_xis (c.fact 290 (by kernel_rfl))) (GlB.cons (gv_xis (c.fact 291 (by kernel_rfl))) (GlB.cons (gv_xis (c.fact 292 (by kernel_rfl))) (GlB.cons (gv_xis (c.fact 293 (by kernel_rfl))) (GlB.cons (gv_xis (c.fact 294 (by kernel_rfl))) (GlB.cons (gv_xis (c.fact 295 (by kernel_rfl))) (GlB.cons (gv_xis (c.fact 296 (by kernel_rfl))) (GlB.cons (gv_xit (c.fact 297 (by kernel_rfl))) (GlB.cons (gv_xis (c.fact 298 (by kernel_rfl))) (GlB.cons (gv_xis (c.fact 299 (by kernel_rfl))) (GlB.cons (gv_xis (c.fact 300 (by kernel_rfl))) (GlB.cons (gv_xis (c.fact 301 (by kernel_rfl))) (GlB.cons (gv_xis (c.fact 302 (by kernel_rfl))) (GlB.cons (gv_xis (c.fact 303 (by kernel_rfl))) (GlB.cons (gv_xis (c.fact 304 (by kernel_rfl))) (GlB.cons (gv_xis (c.fact 305 (by kernel_rfl))) (GlB.cons (gv_xis (c.fact 306 (by kernel_rfl))) (GlB.cons (gv_xis (c.fact 307 (by kernel_rfl))) (GlB.cons (gv_xis (c.fact 308 (by kernel_rfl))) (GlB.cons (gv_xis (c.fact 309 (by kernel_rfl))) (GlB.cons (gv_xis (c.fact 310 (by kernel_rfl))) (GlB.cons (gv_xis (c.fact 311 (by kernel_rfl))) (GlB.cons (gv_xis (c.fact 312 (by kernel_rfl))) (GlB.cons (gv_xis (c.fact 313 (by kernel_rfl))) (GlB.cons (gv_xis (c.fact 314 (by kernel_rfl))) (GlB.cons (gv_xis (c.fact 315 (by kernel_rfl))) (GlB.cons (gv_xis (c.fact 316 (by kernel_rfl))) (GlB.cons (gv_xit (c.fact 317 (by kernel_rfl))) (GlB.cons (gv_xis (c.fact 318 (by kernel_rfl))) (GlB.cons (gv_xis (c.fact 319 (by kernel_rfl))) (GlB.cons (gv_xis (c.fact 320 (by kernel_rfl))) (GlB.cons (gv_xis (c.fact 321 (by kernel_rfl))) (GlB.cons (gv_xis (c.fact 322 (by kernel_rfl))) (GlB.cons (gv_xis (c.fact 323 (by kernel_rfl))) (GlB.cons (gv_xis (c.fact 324 (by kernel_rfl))) (GlB.cons (gv_xis (c.fact 325 (by kernel_rfl))) (GlB.cons (gv_xis (c.fact 326 (by kernel_rfl))) (GlB.cons (gv_xis (c.fact 327 (by kernel_rfl))) (GlB.cons (gv_xis (c.fact 328 (by kernel_rfl))) (GlB.cons (gv_xis (c.fact 329 (by kernel_rfl))) (GlB.cons (gv_xis (c.fact 330 (by kernel_rfl))) (GlB.cons (gv_xis (c.fact 331 (by kernel_rfl))) (GlB.cons (gv_xis (c.fact 332 (by kernel_rfl))) (GlB.cons (gv_xis (c.fact 333 (by kernel_rfl))) (GlB.cons (gv_xis (c.fact 334 (by kernel_rfl))) (GlB.cons (gv_xis (c.fact 335 (by kernel_rfl))) (GlB.cons (gv_xis (c.fact 336 (by kernel_rfl))) (GlB.cons (gv_xit (c.fact 337 (by kernel_rfl))) (GlB.cons (gv_xis (c.fact 338 (by kernel_rfl))) (GlB.cons (gv_xis (c.fact 339 (by kernel_rfl))) (GlB.cons (gv_xis (c.fact 340 (by kernel_rfl))) (GlB.cons (gv_xis (c.fact 341 (by kernel_rfl))) (GlB.cons (gv_xis (c.fact 342 (by kernel_rfl))) (GlB.cons (gv_xis (c.fact 343 (by kernel_rfl))) (GlB.cons (gv_xis (c.fact 344 (by kernel_rfl))) (GlB.cons (gv_xis (c.fact 345 (by kernel_rfl))) (GlB.cons (gv_xis (c.fact 346 (by kernel_rfl))) (GlB.cons (gv_xis (c.fact 347 (by kernel_rfl))) (GlB.cons (gv_xis (c.fact 348 (by kernel_rfl))) (GlB.cons (gv_xis (c.fact 349 (by kernel_rfl))) (GlB.cons (gv_xis (c.fact 350 (by kernel_rfl))) (GlB.cons (gv_xis (c.fact 351 (by kernel_rfl))) (GlB.cons (gv_xis (c.fact 352 (by kernel_rfl))) (GlB.cons (gv_xis (c.fact 353 (by kernel_rfl))) (GlB.cons (gv_xis (c.fact 354 (by kernel_rfl))) (GlB.cons (gv_xis (c.fact 355 (by kernel_rfl))) (GlB.cons (gv_xis (c.fact 356 (by kernel_rfl))) (GlB.cons (gv_xit (c.fact 357 (by kernel_rfl))) (GlB.cons (gv_xis (c.fact 358 (by kernel_rfl))) (GlB.cons (gv_xis (c.fact 359 (by kernel_rfl))) (GlB.cons (gv_xis (c.fact 360 (by kernel_rfl))) (GlB.cons (gv_xis (c.fact 361 (by kernel_rfl))) (GlB.cons (gv_xis (c.fact 362 (by kernel_rfl))) (GlB.cons (gv_xis (c.fact 363 (by kernel_rfl))) (GlB.cons (gv_xis (c.fact 364 (by kernel_rfl))) (GlB.cons (gv_xis (c.fact 365 (by kernel_rfl))) (GlB.cons (gv_xis (c.fact 366 (by kernel_rfl))) (GlB.cons (gv_xis (c.fact 367 (by kernel_rfl))) (GlB.cons (gv_xis (c.fact 368 (by kernel_rfl))) (GlB.cons (gv_xis (c.fact 369 (by kernel_rfl))) (GlB.cons (gv_xis (c.fact 370 (by kernel_rfl))) (GlB.cons (gv_xis (c.fact 371 (by kernel_rfl))) (GlB.cons (gv_xis (c.fact 372 (by kernel_rfl))) (GlB.cons (gv_xis (c.fact 373 (by kernel_rfl))) (GlB.cons (gv_xis (c.fact 374 (by kernel_rfl))) (GlB.cons (gv_xis (c.fact 375 (by kernel_rfl))) (GlB.cons (gv_xis (c.fact 376 (by kernel_rfl))) (GlB.cons (gv_xit (c.fact 377 (by kernel_rfl))) GlB.nil (Nat.le_refl _)) (Nat.le_refl _)) (Nat.le_refl _)) (Nat.le_refl _)) (Nat.le_refl _)) (Nat.le_refl _)) (Nat.le_refl _)) (Nat.le_refl _)) (Nat.le_refl _)) (Nat.le_refl _)) (Nat.le_refl _)) (Nat.le_refl _)) (Nat.le_refl _)) (Nat.le_refl _)) (Nat.le_refl _)) (Nat.le_refl _)) (Nat.le_refl _)) (Nat.le_refl _)) (Nat.le_refl _)) (Nat.le_refl _)) (Nat.le_refl _)) (Nat.le_refl _)) (Nat.le_refl _)) (Nat.le_refl _)) (Nat.le_refl _)) (Nat.le_refl _)) (Nat.le_refl _)) (Nat.le_refl _)) (Nat.le_refl _)) (Nat.le_refl _)) (Nat.le_refl _)) (Nat.le_refl _)) (Nat.le_refl _)) (Nat.le_refl _)) (Nat.le_refl _)) (Nat.le_refl _)) (Nat.le_refl _)) (Nat.le_refl _)) (Nat.le_refl _)) (Nat.le_refl _)) (Nat.le_refl _)) (Nat.le_refl _)) (Nat.le_refl _)) (Nat.le_refl _)) (Nat.le_refl _)) (Nat.le_refl _)) (Nat.le_refl _)) (Nat.le_refl _)) (Nat.le_refl _)) (Nat.le_refl _)) (Nat.le_refl _)) (Nat.le_refl _)) (Nat.le_refl _)) (Nat.le_refl _)) (Nat.le_refl _)) (Nat.le_refl _)) (Nat.le_refl _)) (Nat.le_refl _)) (Nat.le_refl _)) (Nat.le_refl _)) (Nat.le_refl _)) (Nat.le_refl _)) (Nat.le_refl _)) (Nat.le_refl _)) (Nat.le_refl _)) (Nat.le_refl _)) (Nat.le_refl _)) (Nat.le_refl _)) (Nat.le_refl _)) (Nat.le_refl _)) (Nat.le_refl _)) (Nat.le_refl _)) (Nat.le_refl _)) (Nat.le_refl _)) (Nat.le_refl _)) (Nat.le_refl _)) (Nat.le_refl _)) (Nat.le_refl _)) (Nat.le_refl _)) (Nat.le_refl _)) (Nat.le_refl _)) (Nat.le_refl _)) (Nat.le_refl _)) (Nat.le_refl _)) (Nat.le_refl _)) (Nat.le_refl _)) (Nat.le_refl _)) (Nat.le_refl _)) (Nat.le_refl _)) (Nat.le_refl _)) (Nat.le_refl _)) (Nat.le_refl _)) (Nat.le_refl _)) (Nat.le_refl _)) (Nat.le_refl _)) (Nat.le_refl _)) (Nat.le_refl _)) (Nat.le_refl _)) (Nat.le_refl _)) (Nat.le_refl _)) (Nat.le_refl _)) (Nat.le_refl _)) (Nat.le_refl _)) (Nat.le_refl _)) (Nat.le_refl _)) (Nat.le_refl _)) (Nat.le_refl _)) (Nat.le_refl _)) (Nat.le_refl _)) (Nat.le_refl _)) (Nat.le_refl _)) (Nat.le_refl _)) (Nat.le_refl _)) (Nat.le_refl _)) (Nat.le_refl _)) (Nat.le_refl _)) (Nat.le_refl _)) (Nat.le_refl _)) (Nat.le_refl _)) (Nat.le_refl _)) (Nat.le_refl _)) (Nat.le_refl _)) (Nat.le_refl _)) (Nat.le_refl _)) (Nat.le_refl _)) (Nat.le_refl _)) (Nat.le_refl _)) (Nat.le_refl _)) (Nat.le_refl _)) (Nat.le_refl _)) (Nat.le_refl _)) (Nat.le_refl _)) (Nat.le_refl _)) (Nat.le_refl _)) (Nat.le_refl _)) (Nat.le_refl _)) (Nat.le_refl _)) (Nat.le_refl _)) (Nat.le_refl _)) (Nat.le_refl _)) (Nat.le_refl _)) (Nat.le_refl _)) (Nat.le_refl _)) (Nat.le_refl _)) (Nat.le_refl _)) (Nat.le_refl _)) (Nat.le_refl _)) (Nat.le_refl _)) (Nat.le_refl _)) (Nat.le_refl _)) (Nat.le_refl _)) (Nat.le_refl _)) (Nat.le_refl _)) (Nat.le_refl _)) (Nat.le_refl _)) (Nat.le_refl _)) (Nat.le_refl _)) (Nat.le_refl _)) (Nat.le_refl _)) (Nat.le_refl _)) (Nat.le_refl _)) (Nat.le_refl _)) (Nat.le_refl _)) (Nat.le_refl _)) (Nat.le_refl _)) (Nat.le_refl _)) (Nat.le_refl _)) (Nat.le_refl _)) (Nat.le_refl _)) (Nat.le_refl _)) (Nat.le_refl _)) (Nat.le_refl _)) (Nat.le_refl _)) (Nat.le_refl _)) (Nat.le_refl _)) (Nat.le_refl _)) (Nat.le_refl _)) (Nat.le_refl _)) (Nat.le_refl _)) (Nat.le_refl _)) (Nat.le_refl _)) (Nat.le_refl _)) (Nat.le_refl _)) (Nat.le_refl _)) (Nat.le_refl _)) (Nat.le_refl _)) (Nat.le_refl _)) (Nat.le_refl _)) (Nat.le_refl _)) (Nat.le_refl _)) (Nat.le_refl _)) (Nat.le_refl _)) (Nat.le_refl _)) (Nat.le_refl _)) (Nat.le_refl _)) (Nat.le_refl _)) (Nat.le_refl _)) (Nat.le_refl _)) (Nat.le_refl _)) (Nat.le_refl _)) (Nat.le_refl _)) (Nat.le_refl _)) (Nat.le_refl _)) (Nat.le_refl _)) (Nat.le_refl _)) (Nat.le_refl _)) (Nat.le_refl _)) (Nat.le_refl _)) (Nat.le_refl _)) (Nat.le_refl _)) (Nat.le_refl _)) (Nat.le_refl _)) (Nat.le_refl _)) (Nat.le_refl _)) (Nat.le_refl _)) (Nat.le_refl _)) (Nat.le_refl _)) (Nat.le_refl _)) (Nat.le_refl _)) (Nat.le_refl _)) (Nat.le_refl _)) (Nat.le_refl _)) (Nat.le_refl _)) (Nat.le_refl _)) (Nat.le_refl _)) (Nat.le_refl _)) (Nat.le_refl _)) (Nat.le_refl _)) (Nat.le_refl _)) (Nat.le_refl _)) (Nat.le_refl _)) (Nat.le_refl _)) (Nat.le_refl _)) (Nat.le_refl _)) (Nat.le_refl _)) (Nat.le_refl _)) (Nat.le_refl _)) (Nat.le_refl _)) (Nat.le_refl _)) (Nat.le_refl _)) (Nat.le_refl _)) (Nat.le_refl _)) (Nat.le_refl _)) (Nat.le_refl _)) (Nat.le_refl _)) (Nat.le_refl _)) (Nat.le_refl _)) (Nat.le_refl _)) (Nat.le_refl _)) (Nat.le_refl _)) (Nat.le_refl _)) (Nat.le_refl _)) (Nat.le_refl _)) (Nat.le_refl _)) (Nat.le_refl _)) (Nat.le_refl _)) (Nat.le_refl _)) (Nat.le_refl _)) (Nat.le_refl _)) (Nat.le_refl _)) (Nat.le_refl _)) (Nat.le_refl _)) (Nat.le_refl _)) (Nat.le_refl _)) (Nat.le_refl _)) (Nat.le_refl _)) (Nat.le_refl _)) (Nat.le_refl _)) (Nat.le_refl _)) (Nat.le_refl _)) (Nat.le_refl _)) (Nat.le_refl _)) (Nat.le_refl _)) (Nat.le_refl _)) (Nat.le_refl _)) (Nat.le_refl _)) (Nat.le_refl _)) (Nat.le_refl _)) (Nat.le_refl _)) (Nat.le_refl _)) (Nat.le_refl _)) (Nat.le_refl _)) (Nat.le_refl _)) (Nat.le_refl _)) (Nat.le_refl _)) (Nat.le_refl _)) (Nat.le_refl _)) (Nat.le_refl _)) (Nat.le_refl _)) (Nat.le_refl _)) (Nat.le_refl _)) (Nat.le_refl _)) (Nat.le_refl _)) (Nat.le_refl _)) (Nat.le_refl _)) (Nat.le_refl _)) (Nat.le_refl _)) (Nat.le_refl _)) (Nat.le_refl _)) (Nat.le_refl _)) (Nat.le_refl _)) (Nat.le_refl _)) (Nat.le_refl _)) (Nat.le_refl _)) (Nat.le_refl _)) (Nat.le_refl _)) (Nat.le_refl _)) (Nat.le_refl _)) (Nat.le_refl _)) (Nat.le_refl _)) (Nat.le_refl _)) (Nat.le_refl _)) (Nat.le_refl _)) (Nat.le_refl _)) (Nat.le_refl _)) (Nat.le_refl _)) (Nat.le_refl _)) (Nat.le_refl _)) (Nat.le_refl _)) (Nat.le_refl _)) (Nat.le_refl _)) (Nat.le_refl _)) (Nat.le_refl _)) (Nat.le_refl _)) (Nat.le_refl _)) (Nat.le_refl _)) (Nat.le_refl _)) (Nat.le_refl _)) (Nat.le_refl _)) (Nat.le_refl _)) (Nat.le_refl _)) (Nat.le_refl _)) (Nat.le_refl _)) (Nat.le_refl _)) (Nat.le_refl _)) (Nat.le_refl _)) (Nat.le_refl _)) (Nat.le_refl _)) (Nat.le_refl _)) (Nat.le_refl _)) (Nat.le_refl _)) (Nat.le_refl _)) (Nat.le_refl _)) (Nat.le_refl _)) (Nat.le_refl _)) (Nat.le_refl _)) (Nat.le_refl _)) (Nat.le_refl _)) (Nat.le_refl _)) (Nat.le_refl _)) (Nat.le_refl _)) (Nat.le_refl _)) (Nat.le_refl _)) (Nat.le_refl _)) (Nat.le_refl _)) (Nat.le_refl _)) (Nat.le_refl _)) (Nat.le_refl _)) (Nat.le_refl _)) (Nat.le_refl _)) (Nat.le_refl _)) (Nat.le_refl _)) (Nat.le_refl _)) (Nat.le_refl _)) (Nat.le_refl _)) (Nat.le_refl _)) (Nat.le_refl _)) (Nat.le_refl _)) (Nat.le_refl _)) (Nat.le_refl _)) (Nat.le_refl _)) (Nat.le_refl _)) (Nat.le_refl _)) (Nat.le_refl _)) (Nat.le_refl _)) (Nat.le_refl _)) (Nat.le_refl _)) (Nat.le_refl _)
theorem glb_err_InvalidTree {cda0 cc0 : Addr} {fd0 : FuncData} (X : K.In h) (G : h.Ns mainGlobals mg) (c : SaysK PP.main.file kfs fds K) (F0 : FunS PP K "__init__" "InvalidTree.__init__" s_InvalidTree___init__ (plA K (.m "InvalidTree" "__init__")) cda0 cc0 (He.ga K "InvalidTree") fd0) (GL : GlB PP w K mg base k gl0) : GlB PP w K mg base (k + (2)) gl_err_InvalidTree :=
  GlB.cons ((gv_xc1 (s1 := (defBody s_InvalidTree___init__).headD (.Pass ⟨0, 0, 0, 0⟩)) (s2 := ((defBody s_InvalidTree___init__).drop 1).headD (.Pass ⟨0, 0, 0, 0⟩)) X G (c.fact 380 (by kernel_rfl)) (c.fact 378 (by kernel_rfl)) F0 sc_InvalidTree___init__ ⟨_, rfl, rfl⟩ (by kernel_rfl) (by kernel_rfl) (by kernel_rfl) (by decide +kernel) (F0.binds fun _ _ _ _ _ _ _ us hl => match us, hl with | [_, _], _ => rfl) (FunS.kw F0 fun _ _ _ _ _ _ _ us ws hu hw => match us, ws, hu, hw with | [_], [_], _, _ => rfl) : GvB PP w K mg base 2 "InvalidTree" _).mono (Nat.le_add_left 2 k)) (GL.mono (by omega)) (Nat.le_refl _)
theorem glb_err_UnknownNode {cda0 cc0 : Addr} {fd0 : FuncData} (X : K.In h) (G : h.Ns mainGlobals mg) (c : SaysK PP.main.file kfs fds K) (F0 : FunS PP K "__init__" "UnknownNode.__init__" s_UnknownNode___init__ (plA K (.m "UnknownNode" "__init__")) cda0 cc0 (He.ga K "UnknownNode") fd0) (GL : GlB PP w K mg base k gl_err_InvalidTree) : GlB PP w K mg base (k + (2)) gl_err_UnknownNode :=
  GlB.cons ((gv_xc1 (s1 := (defBody s_UnknownNode___init__).headD (.Pass ⟨0, 0, 0, 0⟩)) (s2 := ((defBody s_UnknownNode___init__).drop 1).headD (.Pass ⟨0, 0, 0, 0⟩)) X G (c.fact 381 (by kernel_rfl)) (c.fact 378 (by kernel_rfl)) F0 sc_UnknownNode___init__ ⟨_, rfl, rfl⟩ (by kernel_rfl) (by kernel_rfl) (by kernel_rfl) (by decide +kernel) (F0.binds fun _ _ _ _ _ _ _ us hl => match us, hl with | [_, _], _ => rfl) (FunS.kw F0 fun _ _ _ _ _ _ _ us ws hu hw => match us, ws, hu, hw with | [_], [_], _, _ => rfl) : GvB PP w K mg base 2 "UnknownNode" _).mono (Nat.le_add_left 2 k)) (GL.mono (by omega)) (Nat.le_refl _)
theorem glb_err_InvalidOperation {cda0 cc0 : Addr} {fd0 : FuncData} (X : K.In h) (G : h.Ns mainGlobals mg) (c : SaysK PP.main.file kfs fds K) (F0 : FunS PP K "__init__" "InvalidOperation.__init__" s_InvalidOperation___init__ (plA K (.m "InvalidOperation" "__init__")) cda0 cc0 (He.ga K "InvalidOperation") fd0) (GL : GlB PP w K mg base k gl_err_UnknownNode) : GlB PP w K mg base (k + (2)) gl_err_InvalidOperation :=
  GlB.cons ((gv_xc1 (s1 := (defBody s_InvalidOperation___init__).headD (.Pass ⟨0, 0, 0, 0⟩)) (s2 := ((defBody s_InvalidOperation___init__).drop 1).headD (.Pass ⟨0, 0, 0, 0⟩)) X G (c.fact 382 (by kernel_rfl)) (c.fact 378 (by kernel_rfl)) F0 sc_InvalidOperation___init__ ⟨_, rfl, rfl⟩ (by kernel_rfl) (by kernel_rfl) (by kernel_rfl) (by decide +kernel) (F0.binds fun _ _ _ _ _ _ _ us hl => match us, hl with | [_, _], _ => rfl) (FunS.kw F0 fun _ _ _ _ _ _ _ us ws hu hw => match us, ws, hu, hw with | [_], [_], _, _ => rfl) : GvB PP w K mg base 2 "InvalidOperation" _).mono (Nat.le_add_left 2 k)) (GL.mono (by omega)) (Nat.le_refl _)
theorem glb_err_InvalidItems {cda0 cc0 : Addr} {fd0 : FuncData} (X : K.In h) (G : h.Ns mainGlobals mg) (c : SaysK PP.main.file kfs fds K) (F0 : FunS PP K "__init__" "InvalidItems.__init__" s_InvalidItems___init__ (plA K (.m "InvalidItems" "__init__")) cda0 cc0 (He.ga K "InvalidItems") fd0) (GL : GlB PP w K mg base k gl_err_InvalidOperation) : GlB PP w K mg base (k + (2)) gl_err_InvalidItems :=
  GlB.cons ((gv_xc0 (s1 := (defBody s_InvalidItems___init__).headD (.Pass ⟨0, 0, 0, 0⟩)) X G (c.fact 383 (by kernel_rfl)) (c.fact 378 (by kernel_rfl)) F0 sc_InvalidItems___init__ ⟨_, rfl, rfl⟩ (by kernel_rfl) (by kernel_rfl) (F0.binds fun _ _ _ _ _ _ _ us hl => match us, hl with | [_], _ => rfl) : GvB PP w K mg base 2 "InvalidItems" _).mono (Nat.le_add_left 2 k)) (GL.mono (by omega)) (Nat.le_refl _)
theorem glb_err_InvalidWeights {cda0 cc0 : Addr} {fd0 : FuncData} (X : K.In h) (G : h.Ns mainGlobals mg) (c : SaysK PP.main.file kfs fds K) (F0 : FunS PP K "__init__" "InvalidWeights.__init__" s_InvalidWeights___init__ (plA K (.m "InvalidWeights" "__init__")) cda0 cc0 (He.ga K "InvalidWeights") fd0) (GL : GlB PP w K mg base k gl_err_InvalidItems) : GlB PP w K mg base (k + (2)) gl_err_InvalidWeights :=
  GlB.cons ((gv_xc0 (s1 := (defBody s_InvalidWeights___init__).headD (.Pass ⟨0, 0, 0, 0⟩)) X G (c.fact 384 (by kernel_rfl)) (c.fact 378 (by kernel_rfl)) F0 sc_InvalidWeights___init__ ⟨_, rfl, rfl⟩ (by kernel_rfl) (by kernel_rfl) (F0.binds fun _ _ _ _ _ _ _ us hl => match us, hl with | [_], _ => rfl) : GvB PP w K mg base 2 "InvalidWeights" _).mono (Nat.le_add_left 2 k)) (GL.mono (by omega)) (Nat.le_refl _)
theorem glb_err_InvalidExpression {cda0 cc0 : Addr} {fd0 : FuncData} (X : K.In h) (G : h.Ns mainGlobals mg) (c : SaysK PP.main.file kfs fds K) (F0 : FunS PP K "__init__" "InvalidExpression.__init__" s_InvalidExpression___init__ (plA K (.m "InvalidExpression" "__init__")) cda0 cc0 (He.ga K "InvalidExpression") fd0) (GL : GlB PP w K mg base k gl_err_InvalidWeights) : GlB PP w K mg base (k + (2)) gl_err_InvalidExpression :=
  GlB.cons ((gv_xc0 (s1 := (defBody s_InvalidExpression___init__).headD (.Pass ⟨0, 0, 0, 0⟩)) X G (c.fact 385 (by kernel_rfl)) (c.fact 378 (by kernel_rfl)) F0 sc_InvalidExpression___init__ ⟨_, rfl, rfl⟩ (by kernel_rfl) (by kernel_rfl) (F0.binds fun _ _ _ _ _ _ _ us hl => match us, hl with | [_], _ => rfl) : GvB PP w K mg base 2 "InvalidExpression" _).mono (Nat.le_add_left 2 k)) (GL.mono (by omega)) (Nat.le_refl _)
theorem glb_err_InvalidPart {cda0 cc0 : Addr} {fd0 : FuncData} (X : K.In h) (G : h.Ns mainGlobals mg) (c : SaysK PP.main.file kfs fds K) (F0 : FunS PP K "__init__" "InvalidPart.__init__" s_InvalidPart___init__ (plA K (.m "InvalidPart" "__init__")) cda0 cc0 (He.ga K "InvalidPart") fd0) (GL : GlB PP w K mg base k gl_err_InvalidExpression) : GlB PP w K mg base (k + (2)) gl_err_InvalidPart :=
  GlB.cons ((gv_xc0 (s1 := (defBody s_InvalidPart___init__).headD (.Pass ⟨0, 0, 0, 0⟩)) X G (c.fact 386 (by kernel_rfl)) (c.fact 378 (by kernel_rfl)) F0 sc_InvalidPart___init__ ⟨_, rfl, rfl⟩ (by kernel_rfl) (by kernel_rfl) (F0.binds fun _ _ _ _ _ _ _ us hl => match us, hl with | [_], _ => rfl) : GvB PP w K mg base 2 "InvalidPart" _).mono (Nat.le_add_left 2 k)) (GL.mono (by omega)) (Nat.le_refl _)
theorem glb_err_InvalidComponent {cda0 cc0 : Addr} {fd0 : FuncData} (X : K.In h) (G : h.Ns mainGlobals mg) (c : SaysK PP.main.file kfs fds K) (F0 : FunS PP K "__init__" "InvalidComponent.__init__" s_InvalidComponent___init__ (plA K (.m "InvalidComponent" "__init__")) cda0 cc0 (He.ga K "InvalidComponent") fd0) (GL : GlB PP w K mg base k gl_err_InvalidPart) : GlB PP w K mg base (k + (2)) gl_err_InvalidComponent :=
  GlB.cons ((gv_xc0 (s1 := (defBody s_InvalidComponent___init__).headD (.Pass ⟨0, 0, 0, 0⟩)) X G (c.fact 387 (by kernel_rfl)) (c.fact 378 (by kernel_rfl)) F0 sc_InvalidComponent___init__ ⟨_, rfl, rfl⟩ (by kernel_rfl) (by kernel_rfl) (F0.binds fun _ _ _ _ _ _ _ us hl => match us, hl with | [_], _ => rfl) : GvB PP w K mg base 2 "InvalidComponent" _).mono (Nat.le_add_left 2 k)) (GL.mono (by omega)) (Nat.le_refl _)
theorem glb_err_InvalidApp {cda0 cc0 : Addr} {fd0 : FuncData} (X : K.In h) (G : h.Ns mainGlobals mg) (c : SaysK PP.main.file kfs fds K) (F0 : FunS PP K "__init__" "InvalidApp.__init__" s_InvalidApp___init__ (plA K (.m "InvalidApp" "__init__")) cda0 cc0 (He.ga K "InvalidApp") fd0) (GL : GlB PP w K mg base k gl_err_InvalidComponent) : GlB PP w K mg base (k + (2)) gl_err_InvalidApp :=
  GlB.cons ((gv_xc1 (s1 := (defBody s_InvalidApp___init__).headD (.Pass ⟨0, 0, 0, 0⟩)) (s2 := ((defBody s_InvalidApp___init__).drop 1).headD (.Pass ⟨0, 0, 0, 0⟩)) X G (c.fact 388 (by kernel_rfl)) (c.fact 378 (by kernel_rfl)) F0 sc_InvalidApp___init__ ⟨_, rfl, rfl⟩ (by kernel_rfl) (by kernel_rfl) (by kernel_rfl) (by decide +kernel) (F0.binds fun _ _ _ _ _ _ _ us hl => match us, hl with | [_, _], _ => rfl) (FunS.kw F0 fun _ _ _ _ _ _ _ us ws hu hw => match us, ws, hu, hw with | [_], [_], _, _ => rfl) : GvB PP w K mg base 2 "InvalidApp" _).mono (Nat.le_add_left 2 k)) (GL.mono (by omega)) (Nat.le_refl _)
theorem glb_err_InvalidCells {cda0 cc0 : Addr} {fd0 : FuncData} (X : K.In h) (G : h.Ns mainGlobals mg) (c : SaysK PP.main.file kfs fds K) (F0 : FunS PP K "__init__" "InvalidCells.__init__" s_InvalidCells___init__ (plA K (.m "InvalidCells" "__init__")) cda0 cc0 (He.ga K "InvalidCells") fd0) (GL : GlB PP w K mg base k gl_err_InvalidApp) : GlB PP w K mg base (k + (2)) gl_err_InvalidCells :=
  GlB.cons ((gv_xc0 (s1 := (defBody s_InvalidCells___init__).headD (.Pass ⟨0, 0, 0, 0⟩)) X G (c.fact 389 (by kernel_rfl)) (c.fact 378 (by kernel_rfl)) F0 sc_InvalidCells___init__ ⟨_, rfl, rfl⟩ (by kernel_rfl) (by kernel_rfl) (F0.binds fun _ _ _ _ _ _ _ us hl => match us, hl with | [_], _ => rfl) : GvB PP w K mg base 2 "InvalidCells" _).mono (Nat.le_add_left 2 k)) (GL.mono (by omega)) (Nat.le_refl _)
theorem glb_err_UnknownInstance {cda0 cc0 : Addr} {fd0 : FuncData} (X : K.In h) (G : h.Ns mainGlobals mg) (c : SaysK PP.main.file kfs fds K) (F0 : FunS PP K "__init__" "UnknownInstance.__init__" s_UnknownInstance___init__ (plA K (.m "UnknownInstance" "__init__")) cda0 cc0 (He.ga K "UnknownInstance") fd0) (GL : GlB PP w K mg base k gl_err_InvalidCells) : GlB PP w K mg base (k + (2)) gl_err_UnknownInstance :=
  GlB.cons ((gv_xc1 (s1 := (defBody s_UnknownInstance___init__).headD (.Pass ⟨0, 0, 0, 0⟩)) (s2 := ((defBody s_UnknownInstance___init__).drop 1).headD (.Pass ⟨0, 0, 0, 0⟩)) X G (c.fact 390 (by kernel_rfl)) (c.fact 378 (by kernel_rfl)) F0 sc_UnknownInstance___init__ ⟨_, rfl, rfl⟩ (by kernel_rfl) (by kernel_rfl) (by kernel_rfl) (by decide +kernel) (F0.binds fun _ _ _ _ _ _ _ us hl => match us, hl with | [_, _], _ => rfl) (FunS.kw F0 fun _ _ _ _ _ _ _ us ws hu hw => match us, ws, hu, hw with | [_], [_], _, _ => rfl) : GvB PP w K mg base 2 "UnknownInstance" _).mono (Nat.le_add_left 2 k)) (GL.mono (by omega)) (Nat.le_refl _)
theorem glb_err_UnknownCell {cda0 cc0 : Addr} {fd0 : FuncData} (X : K.In h) (G : h.Ns mainGlobals mg) (c : SaysK PP.main.file kfs fds K) (F0 : FunS PP K "__init__" "UnknownCell.__init__" s_UnknownCell___init__ (plA K (.m "UnknownCell" "__init__")) cda0 cc0 (He.ga K "UnknownCell") fd0) (GL : GlB PP w K mg base k gl_err_UnknownInstance) : GlB PP w K mg base (k + (2)) gl_err_UnknownCell :=
  GlB.cons ((gv_xc1 (s1 := (defBody s_UnknownCell___init__).headD (.Pass ⟨0, 0, 0, 0⟩)) (s2 := ((defBody s_UnknownCell___init__).drop 1).headD (.Pass ⟨0, 0, 0, 0⟩)) X G (c.fact 391 (by kernel_rfl)) (c.fact 378 (by kernel_rfl)) F0 sc_UnknownCell___init__ ⟨_, rfl, rfl⟩ (by kernel_rfl) (by kernel_rfl) (by kernel_rfl) (by decide +kernel) (F0.binds fun _ _ _ _ _ _ _ us hl => match us, hl with | [_, _], _ => rfl) (FunS.kw F0 fun _ _ _ _ _ _ _ us ws hu hw => match us, ws, hu, hw with | [_], [_], _, _ => rfl) : GvB PP w K mg base 2 "UnknownCell" _).mono (Nat.le_add_left 2 k)) (GL.mono (by omega)) (Nat.le_refl _)
theorem glb_err_InvalidValue {cda0 cc0 : Addr} {fd0 : FuncData} (X : K.In h) (G : h.Ns mainGlobals mg) (c : SaysK PP.main.file kfs fds K) (F0 : FunS PP K "__init__" "InvalidValue.__init__" s_InvalidValue___init__ (plA K (.m "InvalidValue" "__init__")) cda0 cc0 (He.ga K "InvalidValue") fd0) (GL : GlB PP w K mg base k gl_err_UnknownCell) : GlB PP w K mg base (k + (2)) gl_err_InvalidValue :=
  GlB.cons ((gv_xc0 (s1 := (defBody s_InvalidValue___init__).headD (.Pass ⟨0, 0, 0, 0⟩)) X G (c.fact 392 (by kernel_rfl)) (c.fact 378 (by kernel_rfl)) F0 sc_InvalidValue___init__ ⟨_, rfl, rfl⟩ (by kernel_rfl) (by kernel_rfl) (F0.binds fun _ _ _ _ _ _ _ us hl => match us, hl with | [_], _ => rfl) : GvB PP w K mg base 2 "InvalidValue" _).mono (Nat.le_add_left 2 k)) (GL.mono (by omega)) (Nat.le_refl _)
theorem glb_err_InvalidChange {cda0 cc0 : Addr} {fd0 : FuncData} (X : K.In h) (G : h.Ns mainGlobals mg) (c : SaysK PP.main.file kfs fds K) (F0 : FunS PP K "__init__" "InvalidChange.__init__" s_InvalidChange___init__ (plA K (.m "InvalidChange" "__init__")) cda0 cc0 (He.ga K "InvalidChange") fd0) (GL : GlB PP w K mg base k gl_err_InvalidValue) : GlB PP w K mg base (k + (2)) gl_err_InvalidChange :=
  GlB.cons ((gv_xc0 (s1 := (defBody s_InvalidChange___init__).headD (.Pass ⟨0, 0, 0, 0⟩)) X G (c.fact 393 (by kernel_rfl)) (c.fact 378 (by kernel_rfl)) F0 sc_InvalidChange___init__ ⟨_, rfl, rfl⟩ (by kernel_rfl) (by kernel_rfl) (F0.binds fun _ _ _ _ _ _ _ us hl => match us, hl with | [_], _ => rfl) : GvB PP w K mg base 2 "InvalidChange" _).mono (Nat.le_add_left 2 k)) (GL.mono (by omega)) (Nat.le_refl _)
theorem glb_err_InvalidUrgency {cda0 cc0 : Addr} {fd0 : FuncData} (X : K.In h) (G : h.Ns mainGlobals mg) (c : SaysK PP.main.file kfs fds K) (F0 : FunS PP K "__init__" "InvalidUrgency.__init__" s_InvalidUrgency___init__ (plA K (.m "InvalidUrgency" "__init__")) cda0 cc0 (He.ga K "InvalidUrgency") fd0) (GL : GlB PP w K mg base k gl_err_InvalidChange) : GlB PP w K mg base (k + (2)) gl_err_InvalidUrgency :=
  GlB.cons ((gv_xc0 (s1 := (defBody s_InvalidUrgency___init__).headD (.Pass ⟨0, 0, 0, 0⟩)) X G (c.fact 394 (by kernel_rfl)) (c.fact 378 (by kernel_rfl)) F0 sc_InvalidUrgency___init__ ⟨_, rfl, rfl⟩ (by kernel_rfl) (by kernel_rfl) (F0.binds fun _ _ _ _ _ _ _ us hl => match us, hl with | [_], _ => rfl) : GvB PP w K mg base 2 "InvalidUrgency" _).mono (Nat.le_add_left 2 k)) (GL.mono (by omega)) (Nat.le_refl _)
theorem glb_err_InvalidPass {cda0 cc0 : Addr} {fd0 : FuncData} (X : K.In h) (G : h.Ns mainGlobals mg) (c : SaysK PP.main.file kfs fds K) (F0 : FunS PP K "__init__" "InvalidPass.__init__" s_InvalidPass___init__ (plA K (.m "InvalidPass" "__init__")) cda0 cc0 (He.ga K "InvalidPass") fd0) (GL : GlB PP w K mg base k gl_err_InvalidUrgency) : GlB PP w K mg base (k + (2)) gl_err_InvalidPass :=
  GlB.cons ((gv_xc0 (s1 := (defBody s_InvalidPass___init__).headD (.Pass ⟨0, 0, 0, 0⟩)) X G (c.fact 395 (by kernel_rfl)) (c.fact 378 (by kernel_rfl)) F0 sc_InvalidPass___init__ ⟨_, rfl, rfl⟩ (by kernel_rfl) (by kernel_rfl) (F0.binds fun _ _ _ _ _ _ _ us hl => match us, hl with | [_], _ => rfl) : GvB PP w K mg base 2 "InvalidPass" _).mono (Nat.le_add_left 2 k)) (GL.mono (by omega)) (Nat.le_refl _)
theorem glb_err_InvalidLog {cda0 cc0 : Addr} {fd0 : FuncData} (X : K.In h) (G : h.Ns mainGlobals mg) (c : SaysK PP.main.file kfs fds K) (F0 : FunS PP K "__init__" "InvalidLog.__init__" s_InvalidLog___init__ (plA K (.m "InvalidLog" "__init__")) cda0 cc0 (He.ga K "InvalidLog") fd0) (GL : GlB PP w K mg base k gl_err_InvalidPass) : GlB PP w K mg base (k + (2)) gl_err_InvalidLog :=
  GlB.cons ((gv_xc1 (s1 := (defBody s_InvalidLog___init__).headD (.Pass ⟨0, 0, 0, 0⟩)) (s2 := ((defBody s_InvalidLog___init__).drop 1).headD (.Pass ⟨0, 0, 0, 0⟩)) X G (c.fact 396 (by kernel_rfl)) (c.fact 378 (by kernel_rfl)) F0 sc_InvalidLog___init__ ⟨_, rfl, rfl⟩ (by kernel_rfl) (by kernel_rfl) (by kernel_rfl) (by decide +kernel) (F0.binds fun _ _ _ _ _ _ _ us hl => match us, hl with | [_, _], _ => rfl) (FunS.kw F0 fun _ _ _ _ _ _ _ us ws hu hw => match us, ws, hu, hw with | [_], [_], _, _ => rfl) : GvB PP w K mg base 2 "InvalidLog" _).mono (Nat.le_add_left 2 k)) (GL.mono (by omega)) (Nat.le_refl _)
theorem glb_err_InvalidText {cda0 cc0 : Addr} {fd0 : FuncData} (X : K.In h) (G : h.Ns mainGlobals mg) (c : SaysK PP.main.file kfs fds K) (F0 : FunS PP K "__init__" "InvalidText.__init__" s_InvalidText___init__ (plA K (.m "InvalidText" "__init__")) cda0 cc0 (He.ga K "InvalidText") fd0) (GL : GlB PP w K mg base k gl_err_InvalidLog) : GlB PP w K mg base (k + (2)) gl_err_InvalidText :=
  GlB.cons ((gv_xc1 (s1 := (defBody s_InvalidText___init__).headD (.Pass ⟨0, 0, 0, 0⟩)) (s2 := ((defBody s_InvalidText___init__).drop 1).headD (.Pass ⟨0, 0, 0, 0⟩)) X G (c.fact 397 (by kernel_rfl)) (c.fact 378 (by kernel_rfl)) F0 sc_InvalidText___init__ ⟨_, rfl, rfl⟩ (by kernel_rfl) (by kernel_rfl) (by kernel_rfl) (by decide +kernel) (F0.binds fun _ _ _ _ _ _ _ us hl => match us, hl with | [_, _], _ => rfl) (FunS.kw F0 fun _ _ _ _ _ _ _ us ws hu hw => match us, ws, hu, hw with | [_], [_], _, _ => rfl) : GvB PP w K mg base 2 "InvalidText" _).mono (Nat.le_add_left 2 k)) (GL.mono (by omega)) (Nat.le_refl _)
theorem f__law_state {f : Addr} {fd : FuncData} (F : (Fun K "_law_state" "_law_state" s__law_state f fd)) (G : GlB PP w K mg base k gl_err_InvalidText) : FnG PP w K mg base (L2.CX PP w) (k + 1) f fd ["_law_script"] (SpM K 1 begunM) := begun_ok (withZ_ok rules7_ok) (n := 40) F sc__law_state G e__law_state p__law_state
theorem glb__law_state {fd0 : FuncData} (X : K.In h) (G : h.Ns mainGlobals mg) (c : SaysK PP.main.file kfs fds K) (F0 : (Fun K "_law_state" "_law_state" s__law_state (plA K (.g "_law_state")) fd0)) (GL : GlB PP w K mg base k gl_err_InvalidText) : GlB PP w K mg base (k + (2)) gl__law_state := by
  have H0 := f__law_state (w := w) F0 GL
  exact GlB.cons (gv_fn X G (c.fact 398 (by kernel_rfl)) F0.kp H0 (F0.binds fun _ _ _ _ _ _ us hl => match us, hl with | [_], _ => rfl) rfl (Nat.le_succ _) (fun z hz => by cases hz)) (GL.mono (by omega)) (Nat.le_refl _)
theorem f__law_plain {f : Addr} {fd : FuncData} (F : (Fun K "_law_plain" "_law_plain" s__law_plain f fd)) (G : GlB PP w K mg base k gl__law_state) : FnG PP w K mg base (L2.CX PP w) (k + 1) f fd [] (SpM K 0 m__law_plain) := def_ok (withZ_ok rules7_ok) (n := 40) F sc__law_plain G e__law_plain p__law_plain
theorem glb__law_plain {fd0 : FuncData} (X : K.In h) (G : h.Ns mainGlobals mg) (c : SaysK PP.main.file kfs fds K) (F0 : (Fun K "_law_plain" "_law_plain" s__law_plain (plA K (.g "_law_plain")) fd0)) (GL : GlB PP w K mg base k gl__law_state) : GlB PP w K mg base (k + (2)) gl__law_plain := by
  have H0 := f__law_plain (w := w) F0 GL
  exact GlB.cons (gv_fn X G (c.fact 399 (by kernel_rfl)) F0.kp H0 (F0.binds fun _ _ _ _ _ _ us hl => match us, hl with | [], _ => rfl) rfl (Nat.le_succ _) (fun z hz => by cases hz)) (GL.mono (by omega)) (Nat.le_refl _)
theorem f__law_marks {f : Addr} {fd : FuncData} (F : (Fun K "_law_marks" "_law_marks" s__law_marks f fd)) (G : GlB PP w K mg base k gl__law_plain) : FnG PP w K mg base (L2.CX PP w) (k + 1) f fd ["_law_one"] (SpM K 1 m__law_marks) := def_ok (withZ_ok rules7_ok) (n := 40) F sc__law_marks G e__law_marks p__law_marks
theorem glb__law_marks {fd0 : FuncData} (X : K.In h) (G : h.Ns mainGlobals mg) (c : SaysK PP.main.file kfs fds K) (F0 : (Fun K "_law_marks" "_law_marks" s__law_marks (plA K (.g "_law_marks")) fd0)) (GL : GlB PP w K mg base k gl__law_plain) : GlB PP w K mg base (k + (2)) gl__law_marks := by
  have H0 := f__law_marks (w := w) F0 GL
  exact GlB.cons (gv_fn X G (c.fact 400 (by kernel_rfl)) F0.kp H0 (F0.binds fun _ _ _ _ _ _ us hl => match us, hl with | [_], _ => rfl) rfl (Nat.le_succ _) (fun z hz => by cases hz)) (GL.mono (by omega)) (Nat.le_refl _)
theorem f__law_is_kind {f : Addr} {fd : FuncData} (F : (Fun K "_law_is_kind" "_law_is_kind" s__law_is_kind f fd)) (G : GlB PP w K mg base k gl__law_marks) : FnG PP w K mg base (L2.CX PP w) (k + 1) f fd ["_law_place", "_law_one"] (SpM K 2 m__law_is_kind) := def_ok (withZ_ok rules7_ok) (n := 40) F sc__law_is_kind G e__law_is_kind p__law_is_kind
theorem glb__law_is_kind {fd0 : FuncData} (X : K.In h) (G : h.Ns mainGlobals mg) (c : SaysK PP.main.file kfs fds K) (F0 : (Fun K "_law_is_kind" "_law_is_kind" s__law_is_kind (plA K (.g "_law_is_kind")) fd0)) (GL : GlB PP w K mg base k gl__law_marks) : GlB PP w K mg base (k + (2)) gl__law_is_kind := by
  have H0 := f__law_is_kind (w := w) F0 GL
  exact GlB.cons (gv_fn X G (c.fact 401 (by kernel_rfl)) F0.kp H0 (F0.binds fun _ _ _ _ _ _ us hl => match us, hl with | [_, _], _ => rfl) rfl (Nat.le_succ _) (fun z hz => by cases hz)) (GL.mono (by omega)) (Nat.le_refl _)
theorem f__law_draw {f : Addr} {fd : FuncData} (F : (Fun K "_law_draw" "_law_draw" s__law_draw f fd)) (G : GlB PP w K mg base k gl__law_is_kind) : FnG PP w K mg base (L2.CX PP w) (k + 1) f fd ["_law_draw_here", "_law_below"] (SpM K 2 drawM) := draw_ok (withZ_ok rules7_ok) (n := 40) F sc__law_draw rfl (by intro x hx; cases hx; decide +kernel) G (by decide +kernel) e__law_draw1 e__law_draw2 p__law_draw
theorem glb__law_draw {fd0 : FuncData} (X : K.In h) (G : h.Ns mainGlobals mg) (c : SaysK PP.main.file kfs fds K) (F0 : (Fun K "_law_draw" "_law_draw" s__law_draw (plA K (.g "_law_draw")) fd0)) (GL : GlB PP w K mg base k gl__law_is_kind) : GlB PP w K mg base (k + (2)) gl__law_draw := by
  have H0 := f__law_draw (w := w) F0 GL
  exact GlB.cons (gv_fn X G (c.fact 402 (by kernel_rfl)) F0.kp H0 (F0.binds fun _ _ _ _ _ _ us hl => match us, hl with | [_, _], _ => rfl) rfl (Nat.le_succ _) (fun z hz => by cases hz)) (GL.mono (by omega)) (Nat.le_refl _)
theorem f__law_pick {f : Addr} {fd : FuncData} (F : (Fun K "_law_pick" "_law_pick" s__law_pick f fd)) (G : GlB PP w K mg base k gl__law_draw) : FnG PP w K mg base (L2.CX PP w) (k + 1) f fd ["_law_draw_here", "_law_some"] (SpM K 2 m__law_pick) := def_ok (withZ_ok rules7_ok) (n := 40) F sc__law_pick G e__law_pick p__law_pick
theorem glb__law_pick {fd0 : FuncData} (X : K.In h) (G : h.Ns mainGlobals mg) (c : SaysK PP.main.file kfs fds K) (F0 : (Fun K "_law_pick" "_law_pick" s__law_pick (plA K (.g "_law_pick")) fd0)) (GL : GlB PP w K mg base k gl__law_draw) : GlB PP w K mg base (k + (2)) gl__law_pick := by
  have H0 := f__law_pick (w := w) F0 GL
  exact GlB.cons (gv_fn X G (c.fact 403 (by kernel_rfl)) F0.kp H0 (F0.binds fun _ _ _ _ _ _ us hl => match us, hl with | [_, _], _ => rfl) rfl (Nat.le_succ _) (fun z hz => by cases hz)) (GL.mono (by omega)) (Nat.le_refl _)
theorem f__law_thing {f : Addr} {fd : FuncData} (F : (Fun K "_law_thing" "_law_thing" s__law_thing f fd)) (G : GlB PP w K mg base k gl__law_pick) : FnG PP w K mg base (L2.CX PP w) (k + 1) f fd ["_law_draw_here"] (SpM K 1 m__law_thing) := def_ok (withZ_ok rules7_ok) (n := 40) F sc__law_thing G e__law_thing p__law_thing
theorem glb__law_thing {fd0 : FuncData} (X : K.In h) (G : h.Ns mainGlobals mg) (c : SaysK PP.main.file kfs fds K) (F0 : (Fun K "_law_thing" "_law_thing" s__law_thing (plA K (.g "_law_thing")) fd0)) (GL : GlB PP w K mg base k gl__law_pick) : GlB PP w K mg base (k + (2)) gl__law_thing := by
  have H0 := f__law_thing (w := w) F0 GL
  exact GlB.cons (gv_fn X G (c.fact 404 (by kernel_rfl)) F0.kp H0 (F0.binds fun _ _ _ _ _ _ us hl => match us, hl with | [_], _ => rfl) rfl (Nat.le_succ _) (fun z hz => by cases hz)) (GL.mono (by omega)) (Nat.le_refl _)
theorem f__law_with {f : Addr} {fd : FuncData} (F : (Fun K "_law_with" "_law_with" s__law_with f fd)) (G : GlB PP w K mg base k gl__law_thing) : FnG PP w K mg base (L2.CX PP w) (k + 1) f fd ["_law_thing_here"] (SpM K 1 m__law_with) := def_ok (withZ_ok rules7_ok) (n := 40) F sc__law_with G e__law_with p__law_with
theorem glb__law_with {fd0 : FuncData} (X : K.In h) (G : h.Ns mainGlobals mg) (c : SaysK PP.main.file kfs fds K) (F0 : (Fun K "_law_with" "_law_with" s__law_with (plA K (.g "_law_with")) fd0)) (GL : GlB PP w K mg base k gl__law_thing) : GlB PP w K mg base (k + (2)) gl__law_with := by
  have H0 := f__law_with (w := w) F0 GL
  exact GlB.cons (gv_fn X G (c.fact 405 (by kernel_rfl)) F0.kp H0 (F0.binds fun _ _ _ _ _ _ us hl => match us, hl with | [_], _ => rfl) rfl (Nat.le_succ _) (fun z hz => by cases hz)) (GL.mono (by omega)) (Nat.le_refl _)
theorem f_is_name {f : Addr} {fd : FuncData} (F : (Fun K "is_name" "is_name" s_is_name f fd)) (G : GlB PP w K mg base k gl__law_with) : FnG PP w K mg base (L2.CX PP w) (k + 1) f fd ["value"] (SpM K 1 m_is_name) := def_ok (withZ_ok rules7_ok) (n := 40) F sc_is_name G e_is_name p_is_name
theorem glb_is_name {fd0 : FuncData} (X : K.In h) (G : h.Ns mainGlobals mg) (c : SaysK PP.main.file kfs fds K) (F0 : (Fun K "is_name" "is_name" s_is_name (plA K (.g "is_name")) fd0)) (GL : GlB PP w K mg base k gl__law_with) : GlB PP w K mg base (k + (2)) gl_is_name := by
  have H0 := f_is_name (w := w) F0 GL
  exact GlB.cons (gv_fn X G (c.fact 406 (by kernel_rfl)) F0.kp H0 (F0.binds fun _ _ _ _ _ _ us hl => match us, hl with | [_], _ => rfl) rfl (Nat.le_succ _) (fun z hz => by
    simp only [List.mem_cons, List.not_mem_nil, or_false] at hz
    subst hz
    exact Fun.kw F0 fun _ _ _ _ _ _ us ws hu hw => match us, ws, hu, hw with | [], [_], _, _ => rfl)) (GL.mono (by omega)) (Nat.le_refl _)
theorem f_is_integer {f : Addr} {fd : FuncData} (F : (Fun K "is_integer" "is_integer" s_is_integer f fd)) (G : GlB PP w K mg base k gl_is_name) : FnG PP w K mg base (L2.CX PP w) (k + 1) f fd ["value"] (SpM K 1 m_is_integer) := def_ok (withZ_ok rules7_ok) (n := 40) F sc_is_integer G e_is_integer p_is_integer
theorem glb_is_integer {fd0 : FuncData} (X : K.In h) (G : h.Ns mainGlobals mg) (c : SaysK PP.main.file kfs fds K) (F0 : (Fun K "is_integer" "is_integer" s_is_integer (plA K (.g "is_integer")) fd0)) (GL : GlB PP w K mg base k gl_is_name) : GlB PP w K mg base (k + (2)) gl_is_integer := by
  have H0 := f_is_integer (w := w) F0 GL
  exact GlB.cons (gv_fn X G (c.fact 407 (by kernel_rfl)) F0.kp H0 (F0.binds fun _ _ _ _ _ _ us hl => match us, hl with | [_], _ => rfl) rfl (Nat.le_succ _) (fun z hz => by cases hz)) (GL.mono (by omega)) (Nat.le_refl _)
theorem f_is_scalar {f : Addr} {fd : FuncData} (F : (Fun K "is_scalar" "is_scalar" s_is_scalar f fd)) (G : GlB PP w K mg base k gl_is_integer) : FnG PP w K mg base (L2.CX PP w) (k + 1) f fd ["value"] (SpM K 1 m_is_scalar) := def_ok (withZ_ok rules7_ok) (n := 40) F sc_is_scalar G e_is_scalar p_is_scalar
theorem glb_is_scalar {fd0 : FuncData} (X : K.In h) (G : h.Ns mainGlobals mg) (c : SaysK PP.main.file kfs fds K) (F0 : (Fun K "is_scalar" "is_scalar" s_is_scalar (plA K (.g "is_scalar")) fd0)) (GL : GlB PP w K mg base k gl_is_integer) : GlB PP w K mg base (k + (2)) gl_is_scalar := by
  have H0 := f_is_scalar (w := w) F0 GL
  exact GlB.cons (gv_fn X G (c.fact 408 (by kernel_rfl)) F0.kp H0 (F0.binds fun _ _ _ _ _ _ us hl => match us, hl with | [_], _ => rfl) rfl (Nat.le_succ _) (fun z hz => by
    simp only [List.mem_cons, List.not_mem_nil, or_false] at hz
    subst hz
    exact Fun.kw F0 fun _ _ _ _ _ _ us ws hu hw => match us, ws, hu, hw with | [], [_], _, _ => rfl)) (GL.mono (by omega)) (Nat.le_refl _)
theorem f_is_value {f : Addr} {fd : FuncData} (F : (Fun K "is_value" "is_value" s_is_value f fd)) (G : GlB PP w K mg base k gl_is_scalar) : FnG PP w K mg base (L2.CX PP w) (k + 1) f fd ["value"] (SpM K 1 m_is_value) := def_ok (withZ_ok rules7_ok) (n := 40) F sc_is_value G e_is_value p_is_value
theorem glb_is_value {fd0 : FuncData} (X : K.In h) (G : h.Ns mainGlobals mg) (c : SaysK PP.main.file kfs fds K) (F0 : (Fun K "is_value" "is_value" s_is_value (plA K (.g "is_value")) fd0)) (GL : GlB PP w K mg base k gl_is_scalar) : GlB PP w K mg base (k + (2)) gl_is_value := by
  have H0 := f_is_value (w := w) F0 GL
  exact GlB.cons (gv_fn X G (c.fact 409 (by kernel_rfl)) F0.kp H0 (F0.binds fun _ _ _ _ _ _ us hl => match us, hl with | [_], _ => rfl) rfl (Nat.le_succ _) (fun z hz => by
    simp only [List.mem_cons, List.not_mem_nil, or_false] at hz
    subst hz
    exact Fun.kw F0 fun _ _ _ _ _ _ us ws hu hw => match us, ws, hu, hw with | [], [_], _, _ => rfl)) (GL.mono (by omega)) (Nat.le_refl _)
theorem f_is_true {f : Addr} {fd : FuncData} (F : (Fun K "is_true" "is_true" s_is_true f fd)) (G : GlB PP w K mg base k gl_is_value) : FnG PP w K mg base (L2.CX PP w) (k + 1) f fd ["value"] (SpM K 1 m_is_true) := def_ok (withZ_ok rules7_ok) (n := 40) F sc_is_true G e_is_true p_is_true
theorem glb_is_true {fd0 : FuncData} (X : K.In h) (G : h.Ns mainGlobals mg) (c : SaysK PP.main.file kfs fds K) (F0 : (Fun K "is_true" "is_true" s_is_true (plA K (.g "is_true")) fd0)) (GL : GlB PP w K mg base k gl_is_value) : GlB PP w K mg base (k + (2)) gl_is_true := by
  have H0 := f_is_true (w := w) F0 GL
  exact GlB.cons (gv_fn X G (c.fact 410 (by kernel_rfl)) F0.kp H0 (F0.binds fun _ _ _ _ _ _ us hl => match us, hl with | [_], _ => rfl) rfl (Nat.le_succ _) (fun z hz => by
    simp only [List.mem_cons, List.not_mem_nil, or_false] at hz
    subst hz
    exact Fun.kw F0 fun _ _ _ _ _ _ us ws hu hw => match us, ws, hu, hw with | [], [_], _, _ => rfl)) (GL.mono (by omega)) (Nat.le_refl _)
theorem f__law_names_right {f : Addr} {fd : FuncData} (F : (Fun K "_law_names_right" "_law_names_right" s__law_names_right f fd)) (G : GlB PP w K mg base k gl_is_true) : FnG PP w K mg base (L2.CX PP w) (k + 1) f fd ["_law_thing_here"] (SpM K 1 m__law_names_right) := def_ok (withZ_ok rules7_ok) (n := 40) F sc__law_names_right G e__law_names_right p__law_names_right
theorem glb__law_names_right {fd0 : FuncData} (X : K.In h) (G : h.Ns mainGlobals mg) (c : SaysK PP.main.file kfs fds K) (F0 : (Fun K "_law_names_right" "_law_names_right" s__law_names_right (plA K (.g "_law_names_right")) fd0)) (GL : GlB PP w K mg base k gl_is_true) : GlB PP w K mg base (k + (2)) gl__law_names_right := by
  have H0 := f__law_names_right (w := w) F0 GL
  exact GlB.cons (gv_fn X G (c.fact 411 (by kernel_rfl)) F0.kp H0 (F0.binds fun _ _ _ _ _ _ us hl => match us, hl with | [_], _ => rfl) rfl (Nat.le_succ _) (fun z hz => by cases hz)) (GL.mono (by omega)) (Nat.le_refl _)
theorem f_law {f : Addr} {fd : FuncData} (F : (Fun K "law" "law" s_law f fd)) (G : GlB PP w K mg base k gl__law_names_right) : FnG PP w K mg base (L2.CX PP w) (k + 1) f fd ["_law_script"] (SpM K 1 lawM) := def_ok (withZ_ok rules7_ok) (n := 40) F sc_law G e_law p_law
end
theorem all_mk {w : World} {K : PySem.W.Frag} {h : Heap} {mg : Str → Option Value} {fa : Addr} (X : K.In h) (G : h.Ns mainGlobals mg) (c : SaysK PP.main.file kfs fds K) (hfa : mg "law" = some (.ref fa)) :
    ∃ fd : FuncData, (∀ (s : Shared) (v : Value), BindsTo s fd ⟨[v], []⟩ [("_law_script", v)]) ∧ ∀ base : Heap, K.In base → base.Ns mainGlobals mg → FnG PP w K mg base (L2.CX PP w) 65 fa fd ["_law_script"] (SpM K 1 lawM) := by
  have e := hfa.symm.trans (kf_glo X G (c.fact 412 (by kernel_rfl)))
  cases e
  obtain ⟨fd_InvalidTree___init__, cda_InvalidTree___init__, cc_InvalidTree___init__, F_InvalidTree___init__⟩ := funS_of (P := PP) (d := ⟨(.m "InvalidTree" "__init__"), "__init__", "InvalidTree.__init__", s_InvalidTree___init__, some "InvalidTree"⟩) (c.def_ 0 (by kernel_rfl)).1 (c.def_ 0 (by kernel_rfl)).2 rfl (by kernel_rfl) ⟨_, rfl⟩
  obtain ⟨fd_UnknownNode___init__, cda_UnknownNode___init__, cc_UnknownNode___init__, F_UnknownNode___init__⟩ := funS_of (P := PP) (d := ⟨(.m "UnknownNode" "__init__"), "__init__", "UnknownNode.__init__", s_UnknownNode___init__, some "UnknownNode"⟩) (c.def_ 1 (by kernel_rfl)).1 (c.def_ 1 (by kernel_rfl)).2 rfl (by kernel_rfl) ⟨_, rfl⟩
  obtain ⟨fd_InvalidOperation___init__, cda_InvalidOperation___init__, cc_InvalidOperation___init__, F_InvalidOperation___init__⟩ := funS_of (P := PP) (d := ⟨(.m "InvalidOperation" "__init__"), "__init__", "InvalidOperation.__init__", s_InvalidOperation___init__, some "InvalidOperation"⟩) (c.def_ 2 (by kernel_rfl)).1 (c.def_ 2 (by kernel_rfl)).2 rfl (by kernel_rfl) ⟨_, rfl⟩
  obtain ⟨fd_InvalidItems___init__, cda_InvalidItems___init__, cc_InvalidItems___init__, F_InvalidItems___init__⟩ := funS_of (P := PP) (d := ⟨(.m "InvalidItems" "__init__"), "__init__", "InvalidItems.__init__", s_InvalidItems___init__, some "InvalidItems"⟩) (c.def_ 3 (by kernel_rfl)).1 (c.def_ 3 (by kernel_rfl)).2 rfl (by kernel_rfl) ⟨_, rfl⟩
  obtain ⟨fd_InvalidWeights___init__, cda_InvalidWeights___init__, cc_InvalidWeights___init__, F_InvalidWeights___init__⟩ := funS_of (P := PP) (d := ⟨(.m "InvalidWeights" "__init__"), "__init__", "InvalidWeights.__init__", s_InvalidWeights___init__, some "InvalidWeights"⟩) (c.def_ 4 (by kernel_rfl)).1 (c.def_ 4 (by kernel_rfl)).2 rfl (by kernel_rfl) ⟨_, rfl⟩
  obtain ⟨fd_InvalidExpression___init__, cda_InvalidExpression___init__, cc_InvalidExpression___init__, F_InvalidExpression___init__⟩ := funS_of (P := PP) (d := ⟨(.m "InvalidExpression" "__init__"), "__init__", "InvalidExpression.__init__", s_InvalidExpression___init__, some "InvalidExpression"⟩) (c.def_ 5 (by kernel_rfl)).1 (c.def_ 5 (by kernel_rfl)).2 rfl (by kernel_rfl) ⟨_, rfl⟩
  obtain ⟨fd_InvalidPart___init__, cda_InvalidPart___init__, cc_InvalidPart___init__, F_InvalidPart___init__⟩ := funS_of (P := PP) (d := ⟨(.m "InvalidPart" "__init__"), "__init__", "InvalidPart.__init__", s_InvalidPart___init__, some "InvalidPart"⟩) (c.def_ 6 (by kernel_rfl)).1 (c.def_ 6 (by kernel_rfl)).2 rfl (by kernel_rfl) ⟨_, rfl⟩
  obtain ⟨fd_InvalidComponent___init__, cda_InvalidComponent___init__, cc_InvalidComponent___init__, F_InvalidComponent___init__⟩ := funS_of (P := PP) (d := ⟨(.m "InvalidComponent" "__init__"), "__init__", "InvalidComponent.__init__", s_InvalidComponent___init__, some "InvalidComponent"⟩) (c.def_ 7 (by kernel_rfl)).1 (c.def_ 7 (by kernel_rfl)).2 rfl (by kernel_rfl) ⟨_, rfl⟩
  obtain ⟨fd_InvalidApp___init__, cda_InvalidApp___init__, cc_InvalidApp___init__, F_InvalidApp___init__⟩ := funS_of (P := PP) (d := ⟨(.m "InvalidApp" "__init__"), "__init__", "InvalidApp.__init__", s_InvalidApp___init__, some "InvalidApp"⟩) (c.def_ 8 (by kernel_rfl)).1 (c.def_ 8 (by kernel_rfl)).2 rfl (by kernel_rfl) ⟨_, rfl⟩
  obtain ⟨fd_InvalidCells___init__, cda_InvalidCells___init__, cc_InvalidCells___init__, F_InvalidCells___init__⟩ := funS_of (P := PP) (d := ⟨(.m "InvalidCells" "__init__"), "__init__", "InvalidCells.__init__", s_InvalidCells___init__, some "InvalidCells"⟩) (c.def_ 9 (by kernel_rfl)).1 (c.def_ 9 (by kernel_rfl)).2 rfl (by kernel_rfl) ⟨_, rfl⟩
  obtain ⟨fd_UnknownInstance___init__, cda_UnknownInstance___init__, cc_UnknownInstance___init__, F_UnknownInstance___init__⟩ := funS_of (P := PP) (d := ⟨(.m "UnknownInstance" "__init__"), "__init__", "UnknownInstance.__init__", s_UnknownInstance___init__, some "UnknownInstance"⟩) (c.def_ 10 (by kernel_rfl)).1 (c.def_ 10 (by kernel_rfl)).2 rfl (by kernel_rfl) ⟨_, rfl⟩
  obtain ⟨fd_UnknownCell___init__, cda_UnknownCell___init__, cc_UnknownCell___init__, F_UnknownCell___init__⟩ := funS_of (P := PP) (d := ⟨(.m "UnknownCell" "__init__"), "__init__", "UnknownCell.__init__", s_UnknownCell___init__, some "UnknownCell"⟩) (c.def_ 11 (by kernel_rfl)).1 (c.def_ 11 (by kernel_rfl)).2 rfl (by kernel_rfl) ⟨_, rfl⟩
  obtain ⟨fd_InvalidValue___init__, cda_InvalidValue___init__, cc_InvalidValue___init__, F_InvalidValue___init__⟩ := funS_of (P := PP) (d := ⟨(.m "InvalidValue" "__init__"), "__init__", "InvalidValue.__init__", s_InvalidValue___init__, some "InvalidValue"⟩) (c.def_ 12 (by kernel_rfl)).1 (c.def_ 12 (by kernel_rfl)).2 rfl (by kernel_rfl) ⟨_, rfl⟩
  obtain ⟨fd_InvalidChange___init__, cda_InvalidChange___init__, cc_InvalidChange___init__, F_InvalidChange___init__⟩ := funS_of (P := PP) (d := ⟨(.m "InvalidChange" "__init__"), "__init__", "InvalidChange.__init__", s_InvalidChange___init__, some "InvalidChange"⟩) (c.def_ 13 (by kernel_rfl)).1 (c.def_ 13 (by kernel_rfl)).2 rfl (by kernel_rfl) ⟨_, rfl⟩
  obtain ⟨fd_InvalidUrgency___init__, cda_InvalidUrgency___init__, cc_InvalidUrgency___init__, F_InvalidUrgency___init__⟩ := funS_of (P := PP) (d := ⟨(.m "InvalidUrgency" "__init__"), "__init__", "InvalidUrgency.__init__", s_InvalidUrgency___init__, some "InvalidUrgency"⟩) (c.def_ 14 (by kernel_rfl)).1 (c.def_ 14 (by kernel_rfl)).2 rfl (by kernel_rfl) ⟨_, rfl⟩
  obtain ⟨fd_InvalidPass___init__, cda_InvalidPass___init__, cc_InvalidPass___init__, F_InvalidPass___init__⟩ := funS_of (P := PP) (d := ⟨(.m "InvalidPass" "__init__"), "__init__", "InvalidPass.__init__", s_InvalidPass___init__, some "InvalidPass"⟩) (c.def_ 15 (by kernel_rfl)).1 (c.def_ 15 (by kernel_rfl)).2 rfl (by kernel_rfl) ⟨_, rfl⟩
  obtain ⟨fd_InvalidLog___init__, cda_InvalidLog___init__, cc_InvalidLog___init__, F_InvalidLog___init__⟩ := funS_of (P := PP) (d := ⟨(.m "InvalidLog" "__init__"), "__init__", "InvalidLog.__init__", s_InvalidLog___init__, some "InvalidLog"⟩) (c.def_ 16 (by kernel_rfl)).1 (c.def_ 16 (by kernel_rfl)).2 rfl (by kernel_rfl) ⟨_, rfl⟩
  obtain ⟨fd_InvalidText___init__, cda_InvalidText___init__, cc_InvalidText___init__, F_InvalidText___init__⟩ := funS_of (P := PP) (d := ⟨(.m "InvalidText" "__init__"), "__init__", "InvalidText.__init__", s_InvalidText___init__, some "InvalidText"⟩) (c.def_ 17 (by kernel_rfl)).1 (c.def_ 17 (by kernel_rfl)).2 rfl (by kernel_rfl) ⟨_, rfl⟩
  obtain ⟨fd__law_state, F__law_state⟩ := fun_of (d := ⟨(.g "_law_state"), "_law_state", "_law_state", s__law_state, none⟩) (c.def_ 18 (by kernel_rfl)).1 (c.def_ 18 (by kernel_rfl)).2 rfl
  obtain ⟨fd__law_plain, F__law_plain⟩ := fun_of (d := ⟨(.g "_law_plain"), "_law_plain", "_law_plain", s__law_plain, none⟩) (c.def_ 19 (by kernel_rfl)).1 (c.def_ 19 (by kernel_rfl)).2 rfl
  obtain ⟨fd__law_marks, F__law_marks⟩ := fun_of (d := ⟨(.g "_law_marks"), "_law_marks", "_law_marks", s__law_marks, none⟩) (c.def_ 20 (by kernel_rfl)).1 (c.def_ 20 (by kernel_rfl)).2 rfl
  obtain ⟨fd__law_is_kind, F__law_is_kind⟩ := fun_of (d := ⟨(.g "_law_is_kind"), "_law_is_kind", "_law_is_kind", s__law_is_kind, none⟩) (c.def_ 21 (by kernel_rfl)).1 (c.def_ 21 (by kernel_rfl)).2 rfl
  obtain ⟨fd__law_draw, F__law_draw⟩ := fun_of (d := ⟨(.g "_law_draw"), "_law_draw", "_law_draw", s__law_draw, none⟩) (c.def_ 22 (by kernel_rfl)).1 (c.def_ 22 (by kernel_rfl)).2 rfl
  obtain ⟨fd__law_pick, F__law_pick⟩ := fun_of (d := ⟨(.g "_law_pick"), "_law_pick", "_law_pick", s__law_pick, none⟩) (c.def_ 23 (by kernel_rfl)).1 (c.def_ 23 (by kernel_rfl)).2 rfl
  obtain ⟨fd__law_thing, F__law_thing⟩ := fun_of (d := ⟨(.g "_law_thing"), "_law_thing", "_law_thing", s__law_thing, none⟩) (c.def_ 24 (by kernel_rfl)).1 (c.def_ 24 (by kernel_rfl)).2 rfl
  obtain ⟨fd__law_with, F__law_with⟩ := fun_of (d := ⟨(.g "_law_with"), "_law_with", "_law_with", s__law_with, none⟩) (c.def_ 25 (by kernel_rfl)).1 (c.def_ 25 (by kernel_rfl)).2 rfl
  obtain ⟨fd_is_name, F_is_name⟩ := fun_of (d := ⟨(.g "is_name"), "is_name", "is_name", s_is_name, none⟩) (c.def_ 26 (by kernel_rfl)).1 (c.def_ 26 (by kernel_rfl)).2 rfl
  obtain ⟨fd_is_integer, F_is_integer⟩ := fun_of (d := ⟨(.g "is_integer"), "is_integer", "is_integer", s_is_integer, none⟩) (c.def_ 27 (by kernel_rfl)).1 (c.def_ 27 (by kernel_rfl)).2 rfl
  obtain ⟨fd_is_scalar, F_is_scalar⟩ := fun_of (d := ⟨(.g "is_scalar"), "is_scalar", "is_scalar", s_is_scalar, none⟩) (c.def_ 28 (by kernel_rfl)).1 (c.def_ 28 (by kernel_rfl)).2 rfl
  obtain ⟨fd_is_value, F_is_value⟩ := fun_of (d := ⟨(.g "is_value"), "is_value", "is_value", s_is_value, none⟩) (c.def_ 29 (by kernel_rfl)).1 (c.def_ 29 (by kernel_rfl)).2 rfl
  obtain ⟨fd_is_true, F_is_true⟩ := fun_of (d := ⟨(.g "is_true"), "is_true", "is_true", s_is_true, none⟩) (c.def_ 30 (by kernel_rfl)).1 (c.def_ 30 (by kernel_rfl)).2 rfl
  obtain ⟨fd__law_names_right, F__law_names_right⟩ := fun_of (d := ⟨(.g "_law_names_right"), "_law_names_right", "_law_names_right", s__law_names_right, none⟩) (c.def_ 31 (by kernel_rfl)).1 (c.def_ 31 (by kernel_rfl)).2 rfl
  obtain ⟨fd_law, F_law⟩ := fun_of (d := ⟨(.g "law"), "law", "law", s_law, none⟩) (c.def_ 32 (by kernel_rfl)).1 (c.def_ 32 (by kernel_rfl)).2 rfl
  refine ⟨fd_law, fun s v => ?_, fun base _ _ => ?_⟩
  · obtain ⟨oc, od, kV, doc, pm, an, cdv, ct, osl, rfl, lk, hcd⟩ := F_law.ex
    exact .of_eq rfl
  · have H0 : GlB PP w K mg base 0 gl0 := glb0 X G c
    have H1 := glb_err_InvalidTree X G c F_InvalidTree___init__ H0
    have H2 := glb_err_UnknownNode X G c F_UnknownNode___init__ H1
    have H3 := glb_err_InvalidOperation X G c F_InvalidOperation___init__ H2
    have H4 := glb_err_InvalidItems X G c F_InvalidItems___init__ H3
    have H5 := glb_err_InvalidWeights X G c F_InvalidWeights___init__ H4
    have H6 := glb_err_InvalidExpression X G c F_InvalidExpression___init__ H5
    have H7 := glb_err_InvalidPart X G c F_InvalidPart___init__ H6
    have H8 := glb_err_InvalidComponent X G c F_InvalidComponent___init__ H7
    have H9 := glb_err_InvalidApp X G c F_InvalidApp___init__ H8
    have H10 := glb_err_InvalidCells X G c F_InvalidCells___init__ H9
    have H11 := glb_err_UnknownInstance X G c F_UnknownInstance___init__ H10
    have H12 := glb_err_UnknownCell X G c F_UnknownCell___init__ H11
    have H13 := glb_err_InvalidValue X G c F_InvalidValue___init__ H12
    have H14 := glb_err_InvalidChange X G c F_InvalidChange___init__ H13
    have H15 := glb_err_InvalidUrgency X G c F_InvalidUrgency___init__ H14
    have H16 := glb_err_InvalidPass X G c F_InvalidPass___init__ H15
    have H17 := glb_err_InvalidLog X G c F_InvalidLog___init__ H16
    have H18 := glb_err_InvalidText X G c F_InvalidText___init__ H17
    have H19 := glb__law_state X G c F__law_state H18
    have H20 := glb__law_plain X G c F__law_plain H19
    have H21 := glb__law_marks X G c F__law_marks H20
    have H22 := glb__law_is_kind X G c F__law_is_kind H21
    have H23 := glb__law_draw X G c F__law_draw H22
    have H24 := glb__law_pick X G c F__law_pick H23
    have H25 := glb__law_thing X G c F__law_thing H24
    have H26 := glb__law_with X G c F__law_with H25
    have H27 := glb_is_name X G c F_is_name H26
    have H28 := glb_is_integer X G c F_is_integer H27
    have H29 := glb_is_scalar X G c F_is_scalar H28
    have H30 := glb_is_value X G c F_is_value H29
    have H31 := glb_is_true X G c F_is_true H30
    have H32 := glb__law_names_right X G c F__law_names_right H31
    exact (f_law F_law H32 : FnG PP w K mg base (L2.CX PP w) (0 + (2) + (2) + (2) + (2) + (2) + (2) + (2) + (2) + (2) + (2) + (2) + (2) + (2) + (2) + (2) + (2) + (2) + (2) + (2) + (2) + (2) + (2) + (2) + (2) + (2) + (2) + (2) + (2) + (2) + (2) + (2) + (2) + 1) (plA K (.g "law")) fd_law ["_law_script"] (SpM K 1 lawM))


end DL.K07
open PySem PySem.W PyProof.Rows in
set_option maxRecDepth 100000 in
set_option maxHeartbeats 0 in
theorem PySem.Challenge.cw_viewturns_k07_errors_made_holds : PySem.Challenge.rw_viewturns_k07_errors_made.Holds := by
  w_on; o_law
  refine HandSHeadRun.head_any (r := OpenLaw.row PySem.Challenge.rw_viewturns_k07_errors_made) (q := view (OpenLaw.row PySem.Challenge.rw_viewturns_k07_errors_made).prog [43]) (H := DL.K07.hk) (ob := DL.K07.ob) (M := 20000) (loose := DL.K07.loose) (d := HandSHeadRun.topDef (OpenLaw.row PySem.Challenge.rw_viewturns_k07_errors_made).prog 43) (kwd := []) DL.K07.ob_eq
    (by kernel_rfl) (fun s => by kernel_rfl) DL.K07.run (by kernel_rfl) (by kernel_rfl) (by kernel_rfl) (by rfl) (by first | assumption | decide +kernel) (by decide +kernel) ⟨rfl, rfl, rfl, rfl, rfl, by decide +kernel⟩ ?hw ?hc
  case hw => w_witness2
  case hc =>
    refine DL.walkGE (l := PySem.Challenge.rw_viewturns_k07_errors_made) (n := 63) (k := 65) (x := "_law_script") rfl (by decide) (by kernel_rfl) ⟨rfl, by decide, by decide⟩ ?F (DL.law_sp 63)
    intro w mg fa h Y G hmg0
    obtain ⟨K, KX, c⟩ := Y
    have hmg : mg ("law" : PySem.Str) = some (.ref fa) := by
      have e : (HandSHeadRun.topDef (OpenLaw.row PySem.Challenge.rw_viewturns_k07_errors_made).prog 43).name = ("law" : PySem.Str) := by kernel_rfl
      rw [← e]
      exact hmg0
    obtain ⟨fd, hb, hF⟩ := DL.K07.all_mk (w := w) KX G c hmg
    exact ⟨K, fd, KX, hb, hF⟩
